import PyProof.Rows.All
import Wide.All
import OpenK.AllK
import Wide.FinOn
import HandS.ForMost
import HandS.Defaults
import HandS.Wide
import HandS.SortInts
import HandS.Strs
import HandS.IsInst
import HandS.Flow
import HandS.Style
import HandS.Deep
import HandS.Conv
import HandS.TupAny
import HandS.Head0
import HandS.Head1
import HandS.Head2
import HandS.HeadEnd
import HandS.HeadHook1
import HandS.HeadHook2
import HandS.HeadHook3
import HandS.HeadHook4
import HandS.HeadWalk
import HandS.EndBits
import HandS.FStr
import HandS.Text
import HandS.SetFor
import HandS.RaiseMore
import HandS.Exc
import HandS.WordsExc
import HandS.ExcInit
import HandS.ExcField
import KE.KExcIs
import PyProof.GenQ
import HandS.GenList
import PyProof.ZipIter
import KE.GoesMore
import PySem.Challenge.RW_monthclamp_k19_renewals_one_by_one
set_option Elab.async false
set_option linter.all false
set_option maxRecDepth 100000
set_option maxHeartbeats 4000000
/-! own rules over the hand layer -/
namespace Mc
open PySem PySem.Spec PyProof.Rows L2
section
variable {X : Cx}
/-- powers of great ints -/
def CPowW (i j : Int) : Prop := 0 ≤ j ∧ (Builtin.Int.intBits i : Int) * j ≤ 2 ^ 27
theorem op_powW : OpR X (binaryOp .Pow) (rI CPowW fun i j => .int (i ^ j.toNat)) :=
  opI fun _ _ _ _ _ _ _ hc q => pow_int hc.1 hc.2 q
theorem bits_lt {i : Int} {b : Nat} (h : i.natAbs < 2 ^ b) (h0 : 0 < b) : Builtin.Int.intBits i ≤ b := by
  have y := PySem.Flt.log2_lt_of h0 h
  unfold Builtin.Int.intBits
  split <;> omega
theorem powW_of {i j : Int} {b : Nat} (h : i.natAbs < 2 ^ b) (h0 : 0 < b) (hj : 0 ≤ j) (hm : (b : Int) * j ≤ 2 ^ 27) : CPowW i j := by
  refine ⟨hj, Int.le_trans (Int.mul_le_mul_of_nonneg_right ?_ hj) hm⟩
  exact_mod_cast bits_lt h h0
end
end Mc
namespace Mc
open PySem PySem.Spec PyProof.Rows L2
/-! ### keywords -/
def gP {α : Type} (d : α) (is : List Nat) (us ws : List α) : List α := us ++ is.map fun i => ws.getD i d
theorem rel_getD : ∀ {zs : List V} {ws : List Value}, Vals zs ws → ∀ i : Nat, RelV (zs.getD i .non) (ws.getD i .none)
  | _, _, .nil, i => by cases i <;> exact rfl
  | _, _, .cons r _, 0 => r
  | _, _, .cons _ r, i + 1 => rel_getD r i
theorem rel_perm {zs : List V} {ws : List Value} (r : Vals zs ws) : ∀ is : List Nat, Vals (is.map fun i => zs.getD i .non) (is.map fun i => ws.getD i .none)
  | [] => .nil
  | i :: is => .cons (rel_getD r i) (rel_perm r is)
theorem kb_of {K : PySem.W.Frag} {x qual : Str} {params : Arguments} {body : List Stmt} {scope : Scope} {f : Addr} {fd : FuncData} {ps ks : List Str} {n : Nat} {is : List Nat}
    (F : FunD K x qual params body scope [] [] f fd)
    (h : ∀ (kV doc pm : Value) (an : Option Addr) (cdv ct : Value) (us ws : List Value), us.length = n → ws.length = ks.length →
      bindArgs (PySem.W.fnOf x qual params body scope .none kV doc pm an cdv ct) ⟨us, ks.zip ws⟩ = pure (ps.zip (gP .none is us ws))) :
    KBn K fd ps n ks (gP .none is) (gP .non is) := by
  obtain ⟨oc, od, dV, kV, doc, pm, an, cdv, ct, osl, rfl, lk, hcd, hD, hK⟩ := F.ex
  rcases hD with ⟨_, rfl⟩ | ⟨e, _⟩
  · exact ⟨fun s us ws _ h1 h2 => .of_eq (h kV doc pm an cdv ct us ws h1 h2), fun r rz => r.append (rel_perm rz is)⟩
  · exact absurd rfl e
section
variable {X : Cx} {CX : CXT} {k n : Nat} {f : Addr} {fd : FuncData} {ps ks : List Str} {sp : Sp} {E : XK} {x : Str} {p pos : Pos} {kws : List Keyword} {tk : TA}
variable {g : List Value → List Value → List Value} {gV : List V → List V → List V}
/-- f(k = v, ..), keywords alone -/
theorem pe_callN0 (F : FnOk X.prog X.w X.K X.mg X.base CX k f fd ps sp) (hr : Room k X.A) (hg : Gl X x) (hm : X.mg x = some (.ref f))
    (hk : PySem.W.keepIn X.K (.ref f) = true) (hb : KBn X.K fd ps 0 ks g gV) (hx : Passes CX X E) (hkw : PK X kws tk)
    (hall : (backToKw pos (keywordEach kws X.env)).all (·.1.isSome) = true := by rfl)
    (hks : (backToKw pos (keywordEach kws X.env)).filterMap (·.1) = ks := by rfl)
    (hdb : (x == ("__debug__" : Str)) = false := by decide)
    (hpl : ((backTo pos (starEach [] X.env)).any (·.1) || (backToKw pos (keywordEach kws X.env)).any (·.1.isNone)) = false := by rfl) :
    PE X (.Call (.Name x p) [] kws pos) (tCallN 0 ks.length sp gV E tNil tk) := by
  constructor
  intro pins s σ H Q I h
  apply wpAny_Call_Name_kw
  refine ld_glob I hg hm ?_ hdb
  apply PySem.W.callWith_KW0 (h₀ := X.base) I.ok.mod.kin hk hall ?_ hpl
  apply thn (hkw.run pos pins s σ H _ I h)
  rintro ws s2 ⟨zs, H2, I2, rz, l1, l2, q2⟩
  refine ⟨I2.kIn, ?_⟩
  rw [hks]
  exact run_fnN (us := []) (vs := []) F hr hb hx I2 .nil rz rfl l2 q2
end
end Mc
/-! readings step by step: one small rule a reading, for a walk that is driven by the goal's head -/
namespace Mc
open PySem PySem.Spec PyProof.Rows L2
section
variable {X : Cx}
theorem op_eqI : OpR X (compareOp .Eq) (rI0 fun i j => .bl (decide (i = j))) := opB0 (g := fun i j => decide (i = j)) fun _ _ _ _ _ _ _ q => eq_int q
theorem op_neI : OpR X (compareOp .NotEq) (rI0 fun i j => .bl (!decide (i = j))) := opB0 (g := fun i j => !decide (i = j)) fun _ _ _ _ _ _ _ q => ne_int q
end
/-- all but the object at S is as it was -/
def Frm (S : Addr) (H H' : Hp) : Prop := ∀ b o, b ≠ S → H b = some o → H' b = some o
theorem Frm.refl {S : Addr} (H : Hp) : Frm S H H := fun _ _ _ h => h
theorem Frm.trans {S : Addr} {H H1 H2 : Hp} (a : Frm S H H1) (b : Frm S H1 H2) : Frm S H H2 := fun c o n h => b c o n (a c o n h)
theorem Same.frm {S : Addr} {H H' : Hp} (a : Same H H') : Frm S H H' := fun c o _ h => a c o h
theorem Frm.set {S : Addr} {H : Hp} {o : HO} : Frm S H (upd H S o) := fun b u n e => by rw [upd_ne n]; exact e
theorem Same.new {H : Hp} {p : Addr} {o : HO} (h : H p = none) : Same H (upd H p o) := fun b u e => by
  rw [upd_ne (ne_of_none e h)]
  exact e
theorem Frm.seq {S : Addr} {K : PySem.W.Frag} {H H' : Hp} {a : Addr} {xs : List V} (e : Frm S H H') (n : a ≠ S) (h : SqL K H a xs) : SqL K H' a xs := by
  rcases h with (h | ⟨o, h⟩) | h
  · exact .inl (.inl (e _ _ n h))
  · exact .inl (.inr ⟨o, e _ _ n h⟩)
  · exact .inr h
theorem Frm.tup {S : Addr} {K : PySem.W.Frag} {H H' : Hp} {a : Addr} {xs : List V} (e : Frm S H H') (n : a ≠ S) (h : SqT K H a xs) : SqT K H' a xs := by
  rcases h with (h | ⟨o, h⟩) | h
  · exact .inl (.inl (e _ _ n h))
  · exact .inl (.inr ⟨o, e _ _ n h⟩)
  · exact .inr h
theorem Same.tup {K : PySem.W.Frag} {H H' : Hp} {a : Addr} {xs : List V} (e : Same H H') (h : SqT K H a xs) : SqT K H' a xs := by
  rcases h with (h | ⟨o, h⟩) | h
  · exact .inl (.inl (e _ _ h))
  · exact .inl (.inr ⟨o, e _ _ h⟩)
  · exact .inr h
/-- fresh later is fresh before, but for S -/
theorem Frm.free {S : Addr} {H H' : Hp} (e : Frm S H H') {l : Addr} (n : l ≠ S) (h : H' l = none) : H l = none := by
  cases q : H l with
  | none => rfl
  | some o =>
    rw [e l o n q] at h
    cases h
theorem hp_ne {H : Hp} {a p : Addr} {o o' : HO} (h : a ≠ p) (q : H a = some o) : upd H p o' a = some o := by rw [upd_ne h]; exact q
theorem hp_same {H H' : Hp} {a : Addr} {o : HO} (e : Same H H') (q : H a = some o) : H' a = some o := e _ _ q
theorem hp_frm {S : Addr} {H H' : Hp} {a : Addr} {o : HO} (e : Frm S H H') (n : a ≠ S) (q : H a = some o) : H' a = some o := e _ _ n q
theorem len_ok {α : Type} {xs : List α} (h : xs.length < 100000) : xs.length ≤ sizeLine := Nat.le_trans (Nat.le_of_lt h) (by decide)
theorem len_lt {α : Type} {xs : List α} (h : xs.length < 100000) : xs.length < sizeLine := Nat.lt_of_lt_of_le h (by decide)
section
variable {σ : L2.St} {H : Hp} {Q : VK} {v : V} {ta tb te : TE} {r : R2} {i j : Int} {nx : L2.St → Hp → Prop} {rt : VK} {bk ct : L2.St → Hp → Prop} {t u : TS}
theorem st_var {n : Nat} (h : σ[n]? = some (some v)) (q : Q v H) : tVar n σ H Q := ⟨v, h, q⟩
theorem st_c (q : Q v H) : tC v σ H Q := q
theorem st_op (h : ta σ H fun x H1 => tb σ H1 fun y H2 => r x y H2 Q) : tOp r ta tb σ H Q := h
theorem st_un {r : V → Hp → VK → Prop} (h : ta σ H fun x H1 => r x H1 Q) : tUn r ta σ H Q := h
theorem st_I0 {g : Int → Int → V} (q : Q (g i j) H) : rI0 g (.int i) (.int j) H Q := ⟨i, j, rfl, rfl, q⟩
theorem st_I {C : Int → Int → Prop} {g : Int → Int → V} (c : C i j) (q : Q (g i j) H) : rI C g (.int i) (.int j) H Q := ⟨i, j, rfl, rfl, c, q⟩
theorem st_U {g : Int → V} (q : Q (g i) H) : rU g (.int i) H Q := ⟨i, rfl, q⟩
theorem st_eq {x y : V} (c : scal x y = true) (q : Q (.bl (decide (x = y))) H) : rEq x y H Q := ⟨c, q⟩
theorem st_ne {x y : V} (c : scal x y = true) (q : Q (.bl (!decide (x = y))) H) : rNe x y H Q := ⟨c, q⟩
-- tests and truth values
theorem st_tB {R : Bool → Hp → Prop} (h : ta σ H fun x H1 => ∃ c, x = .bl c ∧ R c H1) : tB ta σ H R := h
theorem st_test {R : Bool → Hp → Prop} (h : ta σ H fun x H1 => ∃ c, x = .bl c ∧ R c H1) : tTest ta σ H R := h
theorem st_exb {b : Bool} {R : Bool → Prop} (h : R b) : ∃ c, V.bl b = .bl c ∧ R c := ⟨b, rfl, h⟩
theorem st_and {c d : TT} {R : Bool → Hp → Prop} (h : c σ H fun k H1 => if k = true then d σ H1 R else R false H1) : tAnd c d σ H R := h
theorem st_or {c d : TT} {R : Bool → Hp → Prop} (h : c σ H fun k H1 => if k = true then R true H1 else d σ H1 R) : tOr c d σ H R := h
theorem st_not {c : TT} {R : Bool → Hp → Prop} (h : c σ H fun k H1 => R (!k) H1) : tNot c σ H R := h
theorem st_andV (h : ta σ H fun x H1 => ∃ c, x = .bl c ∧ if c = true then tb σ H1 Q else Q (.bl false) H1) : tAndV ta tb σ H Q := h
theorem st_orV (h : ta σ H fun x H1 => ∃ c, x = .bl c ∧ if c = true then Q (.bl true) H1 else tb σ H1 Q) : tOrV ta tb σ H Q := h
theorem st_notV (h : ta σ H fun x H1 => ∃ c, x = .bl c ∧ Q (.bl (!c)) H1) : tNotV ta σ H Q := h
theorem st_chain {r' : R2} {tc : TE} (h : ta σ H fun x H1 => tb σ H1 fun y H2 => r x y H2 fun z H3 => ∃ k, z = .bl k ∧ (if k = true then tc σ H3 fun w' H4 => r' y w' H4 Q else Q (.bl false) H3)) : tChain r r' ta tb tc σ H Q := h
theorem st_ifE {c : TT} (h : c σ H fun k H1 => if k = true then ta σ H1 Q else tb σ H1 Q) : tIf c ta tb σ H Q := h
theorem st_yes {R : Bool → Hp → Prop} (h : R true H) : tYes σ H R := h
theorem st_iT {A B : Prop} (h : A) : if true = true then A else B := iteT h
theorem st_iF {A B : Prop} (h : B) : if false = true then A else B := iteF h
theorem st_iD {p A B : Prop} [Decidable p] (h1 : p → A) (h2 : ¬p → B) : if decide p = true then A else B := ite2 (fun h => h1 (of_decide_eq_true h)) fun h => h2 fun z => h (decide_eq_true z)
theorem st_iND {p A B : Prop} [Decidable p] (h1 : ¬p → A) (h2 : p → B) : if (!decide p) = true then A else B := by
  by_cases h : p
  · rw [decide_eq_true h]
    exact iteF (h2 h)
  · rw [decide_eq_false h]
    exact iteT (h1 h)
theorem st_iB {c : Bool} {A B : Prop} (h1 : c = true → A) (h2 : c = false → B) : if c = true then A else B := by
  cases c with
  | true => exact iteT (h1 rfl)
  | false => exact iteF (h2 rfl)
theorem st_iNB {c : Bool} {A B : Prop} (h1 : c = false → A) (h2 : c = true → B) : if (!c) = true then A else B := by
  cases c with
  | true => exact iteF (h2 rfl)
  | false => exact iteT (h1 rfl)
theorem st_iDT {p A B : Prop} [Decidable p] (hp : p) (h : A) : if decide p = true then A else B := by
  rw [decide_eq_true hp]; exact iteT h
theorem st_iDF {p A B : Prop} [Decidable p] (hp : ¬p) (h : B) : if decide p = true then A else B := by
  rw [decide_eq_false hp]; exact iteF h
-- statements
theorem st_seq (h : t ⟨u ⟨nx, rt, bk, ct⟩, rt, bk, ct⟩ σ H) : tSeq t u ⟨nx, rt, bk, ct⟩ σ H := h
theorem st_next (h : nx σ H) : tNext ⟨nx, rt, bk, ct⟩ σ H := h
theorem st_set {n : Nat} (h : te σ H fun x H1 => nx (σ.set n (some x)) H1) : tAsg te (gName n) ⟨nx, rt, bk, ct⟩ σ H := h
theorem st_asg {g : TG} (h : te σ H fun x H1 => g x σ H1 nx) : tAsg te g ⟨nx, rt, bk, ct⟩ σ H := h
theorem st_par {n m : Nat} {ta : TA} (h : ta σ H fun vs H1 => ∃ v w, vs = [v, w] ∧ nx ((σ.set n (some v)).set m (some w)) H1) : tPar n m ta ⟨nx, rt, bk, ct⟩ σ H := h
theorem st_par2 {x y : V} {R : V → V → Prop} (h : R x y) : ∃ v w, [x, y] = [v, w] ∧ R v w := ⟨x, y, rfl, h⟩
theorem st_aug {n : Nat} {ti : TIp} {x : V} (hx : σ[n]? = some (some x)) (h : te σ H fun y H1 => ti x y H1 fun z H2 => nx (σ.set n (some z)) H2) : tAug n te ti ⟨nx, rt, bk, ct⟩ σ H := ⟨x, hx, h⟩
theorem st_ipI {f : Int → Int → Int} (q : Q (.int (f i j)) H) : ipI f (.int i) (.int j) H Q := ⟨i, j, rfl, rfl, q⟩
theorem st_drop (h : te σ H fun _ H1 => nx σ H1) : tDrop te ⟨nx, rt, bk, ct⟩ σ H := h
theorem st_ret (h : te σ H rt) : tRet te ⟨nx, rt, bk, ct⟩ σ H := h
theorem st_retN (h : rt .non H) : tRetN ⟨nx, rt, bk, ct⟩ σ H := h
theorem st_ifS {c : TT} (h : c σ H fun b H1 => if b = true then t ⟨nx, rt, bk, ct⟩ σ H1 else u ⟨nx, rt, bk, ct⟩ σ H1) : tIfS c t u ⟨nx, rt, bk, ct⟩ σ H := h
theorem st_brk (h : bk σ H) : tBreak ⟨nx, rt, bk, ct⟩ σ H := h
theorem st_cont (h : ct σ H) : tCont ⟨nx, rt, bk, ct⟩ σ H := h
-- targets
theorem st_gN {n : Nat} {x : V} {R : L2.St → Hp → Prop} (h : R (σ.set n (some x)) H) : gName n x σ H R := h
theorem st_gT {K : PySem.W.Frag} {a : Addr} {xs : List V} {n : Nat} {t : TGs} {R : L2.St → Hp → Prop} (h : SqT K H a xs) (hn : xs.length = n) (q : t xs σ H R) : gTup K n t (.ref a) σ H R := ⟨a, xs, rfl, h, hn, q⟩
theorem st_gC {t : TG} {u : TGs} {x : V} {xs : List V} {R : L2.St → Hp → Prop} (h : t x σ H fun σ' H' => u xs σ' H' R) : gCons t u (x :: xs) σ H R := ⟨x, xs, rfl, h⟩
theorem st_gE {R : L2.St → Hp → Prop} (h : R σ H) : gNil [] σ H R := ⟨rfl, h⟩
theorem st_gS {to ti : TE} {ts : TSet} {x : V} {R : L2.St → Hp → Prop} (h : to σ H fun o H1 => ti σ H1 fun i H2 => ts o i x H2 fun H3 => R σ H3) : gSub to ti ts x σ H R := h
theorem st_setL {R : Hp → Prop} {p : Addr} {xs : List V} {k : Int} {n : Nat} {x : V} (h : H p = some (.lst xs)) (hk : ixN xs.length k = some n) (q : R (upd H p (.lst (xs.set n x)))) : rSetL (.ref p) (.int k) x H R := ⟨p, xs, k, n, rfl, rfl, h, hk, q⟩
-- arguments, displays, calls
theorem st_nil {R : List V → Hp → Prop} (h : R [] H) : tNil σ H R := h
theorem st_cons {t : TA} {R : List V → Hp → Prop} (h : ta σ H fun x H1 => t σ H1 fun xs H2 => R (x :: xs) H2) : tCons ta t σ H R := h
theorem st_lst {t : TA} (h : t σ H fun xs H1 => xs.length ≤ sizeLine ∧ ∀ p, H1 p = none → Q (.ref p) (upd H1 p (.lst xs))) : tLst t σ H Q := h
theorem st_tup {t : TA} (h : t σ H fun xs H1 => xs.length ≤ sizeLine ∧ ∀ p, H1 p = none → Q (.ref p) (upd H1 p (.tup xs))) : tTup t σ H Q := h
theorem st_new {xs : List V} {R : Addr → Prop} (h : xs.length < 100000) (q : ∀ p, H p = none → R p) : xs.length ≤ sizeLine ∧ ∀ p, H p = none → R p := ⟨len_ok h, q⟩
theorem st_call {sp : Sp} {dvs : List V} {E : XK} {t : TA} (h : t σ H fun vs H1 => sp (vs ++ dvs) H1 Q E) : tCall sp dvs E t σ H Q := h
theorem st_callN {n m : Nat} {sp : Sp} {gV : List V → List V → List V} {E : XK} {t tk : TA} (h : t σ H fun vs H1 => tk σ H1 fun zs H2 => vs.length = n ∧ zs.length = m ∧ sp (gV vs zs) H2 Q E) : tCallN n m sp gV E t tk σ H Q := h
theorem st_cb {r : List V → Hp → VK → Prop} {t : TA} (h : t σ H fun vs H1 => r vs H1 Q) : tCB r t σ H Q := h
theorem st_bm {K : PySem.W.Frag} {T : String} {r : V → List V → Hp → VK → Prop} {to : TE} {t : TA} (h : to σ H fun x H1 => tyV K T x H1 ∧ t σ H1 fun xs H2 => r x xs H2 Q) : tBM K T r to t σ H Q := h
theorem st_bm0 {K : PySem.W.Frag} {T : String} {r : V → List V → Hp → VK → Prop} {to : TE} (h : to σ H fun x H1 => tyV K T x H1 ∧ r x [] H1 Q) : tBM0 K T r to σ H Q := h
theorem st_tyL {K : PySem.W.Frag} {p : Addr} {xs : List V} {R : Prop} (h : SqL K H p xs) (q : R) : tyV K "list" (.ref p) H ∧ R := ⟨.inl ⟨rfl, _, h⟩, q⟩
theorem st_ixL {K : PySem.W.Frag} {p : Addr} {xs : List V} (h : SqL K H p xs) (ha : atI xs i = some v) (q : Q v H) : rIxL K (.ref p) (.int i) H Q := ⟨p, xs, i, v, rfl, rfl, h, ha, q⟩
theorem st_ixT {K : PySem.W.Frag} {p : Addr} {xs : List V} (h : SqT K H p xs) (ha : atI xs i = some v) (q : Q v H) : rIxT K (.ref p) (.int i) H Q := ⟨p, xs, i, v, rfl, rfl, h, ha, q⟩
theorem st_app {p : Addr} {xs : List V} {y : V} (h : H p = some (.lst xs)) (hl : xs.length < 100000) (q : Q .non (upd H p (.lst (xs ++ [y])))) : rAppend (.ref p) [y] H Q := ⟨p, xs, y, rfl, rfl, h, len_lt hl, q⟩
theorem st_cat {p b : Addr} {xs zs : List V} (h : H p = some (.lst xs)) (hb : H b = some (.lst zs)) (hl : xs.length + zs.length < 100000) (q : ∀ c, H c = none → Q (.ref c) (upd H c (.lst (xs ++ zs)))) : rCat (.ref p) (.ref b) H Q :=
  ⟨p, b, xs, zs, rfl, rfl, h, hb, Nat.le_trans (Nat.le_of_lt hl) (by decide), q⟩
theorem st_int {R : Int → Prop} {U : Bool → Prop} (q : R i) : (∃ k, ([V.int i] : List V) = [.int k] ∧ R k) ∨ ∃ k, ([V.int i] : List V) = [.bl k] ∧ U k := .inl ⟨i, rfl, q⟩
theorem st_intb {R : Int → Prop} {U : Bool → Prop} {b : Bool} (q : U b) : (∃ k, ([V.bl b] : List V) = [.int k] ∧ R k) ∨ ∃ k, ([V.bl b] : List V) = [.bl k] ∧ U k := .inr ⟨b, rfl, q⟩
theorem st_i1 {R : Int → Prop} (q : R i) : ∃ k, ([V.int i] : List V) = [.int k] ∧ R k := ⟨i, rfl, q⟩
theorem st_i2 {R : Int → Int → Prop} (q : R i j) : ∃ k l, ([V.int i, V.int j] : List V) = [.int k, .int l] ∧ R k l := ⟨i, j, rfl, q⟩
theorem st_len {R : List V → Prop} {K : PySem.W.Frag} {p : Addr} {xs : List V} (h : SqL K H p xs) (q : R xs) : ∃ a ys, ([V.ref p] : List V) = [.ref a] ∧ (SqL K H a ys ∨ SqT K H a ys) ∧ R ys := ⟨p, xs, rfl, .inl h, q⟩
theorem st_lenT {R : List V → Prop} {K : PySem.W.Frag} {p : Addr} {xs : List V} (h : SqT K H p xs) (q : R xs) : ∃ a ys, ([V.ref p] : List V) = [.ref a] ∧ (SqL K H a ys ∨ SqT K H a ys) ∧ R ys := ⟨p, xs, rfl, .inr h, q⟩
theorem st_powL {k : Int} (c : CPow i j) (e : i ^ j.toNat = k) (q : Q (.int k) H) : rI CPow (fun i j => .int (i ^ j.toNat)) (.int i) (.int j) H Q := ⟨i, j, rfl, rfl, c, by subst e; exact q⟩
theorem st_in {K : PySem.W.Frag} {neg : Bool} {p : Addr} {x : V} {xs : List V} (h : SqL K H p xs ∨ SqT K H p xs) (hx : flatV x = true) (hf : xs.all flatV = true) (q : Q (.bl (if neg then !inV x xs else inV x xs)) H) : rIn K neg x (.ref p) H Q := ⟨p, xs, rfl, h, hx, hf, q⟩
end
end Mc
namespace Mc
open PySem PySem.Spec PyProof.Rows L2
theorem at0 {xs : List V} {v : V} (h : xs[0]? = some v) : atI xs 0 = some v := atI_nat (j := 0) h
theorem at1 {xs : List V} {v : V} (h : xs[1]? = some v) : atI xs 1 = some v := atI_nat (j := 1) h
theorem at2 {xs : List V} {v : V} (h : xs[2]? = some v) : atI xs 2 = some v := atI_nat (j := 2) h
theorem at3 {xs : List V} {v : V} (h : xs[3]? = some v) : atI xs 3 = some v := atI_nat (j := 3) h
end Mc
namespace Mc
open PySem PySem.Spec PyProof.Rows L2
section
variable {X : Cx}
theorem call_minI (hc : X.calm = true) : CallR X (.builtin "min") (fun xs H Q => ∃ i j, xs = [.int i, .int j] ∧ Q (.int (min i j)) H) := by
  intro pins s σ H xs us Q I r ⟨i, j, e, q⟩
  refine call_min2 hc pins s σ H xs us Q I r ⟨i, j, e, ?_⟩
  have e2 : (if j < i then j else i) = min i j := by omega
  rw [e2]
  exact q
theorem call_maxI (hc : X.calm = true) : CallR X (.builtin "max") (fun xs H Q => ∃ i j, xs = [.int i, .int j] ∧ Q (.int (max i j)) H) := by
  intro pins s σ H xs us Q I r ⟨i, j, e, q⟩
  refine call_max2 hc pins s σ H xs us Q I r ⟨i, j, e, ?_⟩
  have e2 : (if j > i then j else i) = max i j := by omega
  rw [e2]
  exact q
end
section
variable {σ : L2.St} {H : Hp} {Q : VK} {v : V} {ta tb te : TE} {i j : Int} {nx : L2.St → Hp → Prop} {rt : VK} {bk ct : L2.St → Hp → Prop} {t u : TS} {g : TG} {wi : TI} {tt : TT} {K : PySem.W.Frag}
theorem st_forI (h : wi σ H fun J H1 => ∃ W : Nat → Nat → L2.St → Hp → Prop, (∃ m, W 0 m σ H1) ∧ ∀ i m σ H, W i m σ H →
    (J.stop i H ∧ nx σ H) ∨ (J.go i H ∧ ∃ N : L2.St → Hp → Prop, (∀ σ' H', N σ' H' → ∃ m', m' < m ∧ W (i + 1) m' σ' H') ∧ ∀ x H', J.yld i H x H' → g x σ H' fun σ2 H2 => u ⟨N, rt, nx, N⟩ σ2 H2)) :
    tFor wi g u ⟨nx, rt, bk, ct⟩ σ H := h
theorem st_lcI {vs : List Nat} (h : wi σ H fun J H1 => ∀ D, H1 D = none → ∃ W : Nat → Nat → Hp → Prop, (∃ m, W 0 m (upd H1 D (.lst []))) ∧ ∀ i m H, W i m H →
    (J.stop i H ∧ Q (.ref D) H) ∨ (J.go i H ∧ ∃ Nx : Hp → Prop, (∀ H', Nx H' → ∃ m', m' < m ∧ W (i + 1) m' H') ∧ ∀ x H', J.yld i H x H' → g x (wipe σ vs) H' fun σ2 H2 => wipe σ2 vs = wipe σ vs ∧ tt σ2 H2 fun b H3 =>
      if b = true then te σ2 H3 fun y H4 => ∃ acc, H4 D = some (.lst acc) ∧ acc.length < sizeLine ∧ Nx (upd H4 D (.lst (acc ++ [y]))) else Nx H3)) :
    tLc wi g tt te vs σ H Q := h
theorem st_itL {tl : TE} {R : It → Hp → Prop} (h : tl σ H fun x H1 => ∃ a, x = .ref a ∧ (∃ xs, SqL K H1 a xs) ∧ R (Itl K a) H1) : iList K tl σ H R := h
theorem st_itT {tl : TE} {R : It → Hp → Prop} (h : tl σ H fun x H1 => ∃ a, x = .ref a ∧ (∃ xs, SqT K H1 a xs) ∧ R (Itt K a) H1) : iTup K tl σ H R := h
theorem st_rng1 {ta : TA} {R : It → Hp → Prop} (h : ta σ H fun vs H1 => ∃ j : Int, vs = [.int j] ∧ -(2 ^ 62) ≤ j ∧ j < 2 ^ 62 ∧ R (Itr 0 j.toNat) H1) : iRng1 ta σ H R := h
theorem st_rng2 {ta : TA} {R : It → Hp → Prop} (h : ta σ H fun vs H1 => ∃ i j : Int, vs = [.int i, .int j] ∧ (-(2 ^ 62) ≤ i ∧ i < 2 ^ 62 ∧ -(2 ^ 62) ≤ j ∧ j < 2 ^ 62) ∧ R (Itr i (j - i).toNat) H1) : iRng2 ta σ H R := h
theorem st_ref {a : Addr} {R : Addr → Prop} (h : R a) : ∃ b, V.ref a = .ref b ∧ R b := ⟨a, rfl, h⟩
theorem q_of {Q : VK} {v v' : V} {H : Hp} (q : Q v H) (e : v' = v) : Q v' H := by rw [e]; exact q
theorem in_int {i : Int} : ∀ {ns : List Int}, inV (.int i) (ns.map V.int) = decide (i ∈ ns)
  | [] => by simp [inV]
  | n :: ns => by
    have h := @in_int i ns
    simp only [inV] at h ⊢
    simp only [List.map_cons, List.any_cons, h, List.mem_cons]
    by_cases e : i = n
    · subst e; simp [eqV]
    · have e2 : ¬ n = i := fun z => e z.symm
      simp [eqV, e, e2]
theorem flat_ints : ∀ (ns : List Int), (ns.map V.int).all flatV = true
  | [] => rfl
  | n :: ns => by
    rw [List.map_cons, List.all_cons, flat_ints ns]
    rfl
end
end Mc
namespace Mc
open PySem PySem.Spec PyProof.Rows L2
section
variable {K : PySem.W.Frag} {a : Addr} {xs : List V} {g : TG} {tb : TS} {nx : L2.St → Hp → Prop} {rt : VK} {σ : L2.St} {H : Hp}
theorem fL (Pv : Nat → L2.St → Hp → Prop) (h0 : Pv 0 σ H) (hl : ∀ i σ H, i ≤ xs.length → Pv i σ H → SqL K H a xs)
    (hs : ∀ i x σ H, xs[i]? = some x → Pv i σ H → g x σ H fun σ2 H2 => tb ⟨Pv (i + 1), rt, nx, Pv (i + 1)⟩ σ2 H2) (hd : ∀ σ H, Pv xs.length σ H → nx σ H) :
    ∃ W : Nat → Nat → L2.St → Hp → Prop, (∃ m, W 0 m σ H) ∧ ∀ i m σ H, W i m σ H →
      ((Itl K a).stop i H ∧ nx σ H) ∨ ((Itl K a).go i H ∧ ∃ N : L2.St → Hp → Prop, (∀ σ' H', N σ' H' → ∃ m', m' < m ∧ W (i + 1) m' σ' H') ∧ ∀ x H', (Itl K a).yld i H x H' → g x σ H' fun σ2 H2 => tb ⟨N, rt, nx, N⟩ σ2 H2) :=
  for_list (D := ⟨nx, rt, nx, nx⟩) Pv h0 hl hs hd
theorem fT (Pv : Nat → L2.St → Hp → Prop) (h0 : Pv 0 σ H) (hl : ∀ i σ H, i ≤ xs.length → Pv i σ H → SqT K H a xs)
    (hs : ∀ i x σ H, xs[i]? = some x → Pv i σ H → g x σ H fun σ2 H2 => tb ⟨Pv (i + 1), rt, nx, Pv (i + 1)⟩ σ2 H2) (hd : ∀ σ H, Pv xs.length σ H → nx σ H) :
    ∃ W : Nat → Nat → L2.St → Hp → Prop, (∃ m, W 0 m σ H) ∧ ∀ i m σ H, W i m σ H →
      ((Itt K a).stop i H ∧ nx σ H) ∨ ((Itt K a).go i H ∧ ∃ N : L2.St → Hp → Prop, (∀ σ' H', N σ' H' → ∃ m', m' < m ∧ W (i + 1) m' σ' H') ∧ ∀ x H', (Itt K a).yld i H x H' → g x σ H' fun σ2 H2 => tb ⟨N, rt, nx, N⟩ σ2 H2) :=
  for_tup (D := ⟨nx, rt, nx, nx⟩) Pv h0 hl hs hd
theorem fR {lo : Int} {n : Nat} (Pv : Nat → L2.St → Hp → Prop) (h0 : Pv 0 σ H)
    (hs : ∀ i σ H, i < n → Pv i σ H → g (.int (lo + i)) σ H fun σ2 H2 => tb ⟨Pv (i + 1), rt, nx, Pv (i + 1)⟩ σ2 H2) (hd : ∀ σ H, Pv n σ H → nx σ H) :
    ∃ W : Nat → Nat → L2.St → Hp → Prop, (∃ m, W 0 m σ H) ∧ ∀ i m σ H, W i m σ H →
      ((Itr lo n).stop i H ∧ nx σ H) ∨ ((Itr lo n).go i H ∧ ∃ N : L2.St → Hp → Prop, (∀ σ' H', N σ' H' → ∃ m', m' < m ∧ W (i + 1) m' σ' H') ∧ ∀ x H', (Itr lo n).yld i H x H' → g x σ H' fun σ2 H2 => tb ⟨N, rt, nx, N⟩ σ2 H2) :=
  for_range (D := ⟨nx, rt, nx, nx⟩) Pv h0 hs hd
/-- the items of a list of ints -/
theorem int_at {ns : List Int} {i : Nat} {x : V} (h : (ns.map V.int)[i]? = some x) : ∃ k, ns[i]? = some k ∧ x = .int k := by
  rw [List.getElem?_map] at h
  cases e : ns[i]? with
  | none => rw [e] at h; cases h
  | some k => rw [e] at h; exact ⟨k, rfl, (Option.some.inj h).symm⟩
end
end Mc
namespace Mc
open PySem PySem.Spec PyProof.Rows L2
/-- these values are these ints -/
inductive IsI : List V → List Int → Prop
  | nil : IsI [] []
  | cons {n : Int} {xs : List V} {ns : List Int} : IsI xs ns → IsI (.int n :: xs) (n :: ns)
theorem IsI.eq : ∀ {xs : List V} {ns : List Int}, IsI xs ns → xs = ns.map V.int
  | _, _, .nil => rfl
  | _, _, .cons h => by rw [h.eq]; rfl
theorem isI_map : ∀ ns : List Int, IsI (ns.map V.int) ns
  | [] => .nil
  | _ :: ns => .cons (isI_map ns)
theorem at_int {ns : List Int} {i : Int} (h0 : 0 ≤ i) (h1 : i < ns.length) : ∃ k, ns[i.toNat]? = some k ∧ atI (ns.map V.int) i = some (.int k) := by
  have hl : i.toNat < ns.length := by omega
  refine ⟨ns[i.toNat], List.getElem?_eq_getElem hl, ?_⟩
  have e : ((i.toNat : Nat) : Int) = i := by omega
  have h := atI_nat (xs := ns.map V.int) (j := i.toNat) (v := .int ns[i.toNat]) (by rw [List.getElem?_map, List.getElem?_eq_getElem hl]; rfl)
  rw [e] at h
  exact h
section
variable {H : Hp} {Q : VK} {i : Int} {K : PySem.W.Frag}
theorem st_ixP {p : Addr} {xs : List V} {ns : List Int} (h : SqL K H p xs) (e : IsI xs ns) (h0 : 0 ≤ i) (h1 : i < ns.length) (q : ∀ k, ns[i.toNat]? = some k → Q (.int k) H) : rIxL K (.ref p) (.int i) H Q := by
  obtain ⟨k, hk, ha⟩ := at_int h0 h1
  rw [e.eq] at h
  exact ⟨p, _, i, _, rfl, rfl, h, ha, q k hk⟩
theorem st_ixPT {p : Addr} {xs : List V} {ns : List Int} (h : SqT K H p xs) (e : IsI xs ns) (h0 : 0 ≤ i) (h1 : i < ns.length) (q : ∀ k, ns[i.toNat]? = some k → Q (.int k) H) : rIxT K (.ref p) (.int i) H Q := by
  obtain ⟨k, hk, ha⟩ := at_int h0 h1
  rw [e.eq] at h
  exact ⟨p, _, i, _, rfl, rfl, h, ha, q k hk⟩
end
theorem Same.by {S : Addr} {H0 H H' : Hp} (a : Same H0 H) (n : H0 S = none) (f : Frm S H H') : Same H0 H' := fun b o e => f b o (ne_of_none e n) (a b o e)
end Mc
namespace Mc
open PySem PySem.Spec PyProof.Rows L2
theorem ne_nf {H : Hp} {a b : Addr} {o : HO} (h' : H b = none) (h : H a = some o) : a ≠ b := ne_of_none h h'
end Mc
namespace Mc
open PySem PySem.Spec PyProof.Rows L2
theorem Frm.tr {S : Addr} {H H1 H2 : Hp} (b : Frm S H1 H2) (a : Frm S H H1) : Frm S H H2 := a.trans b
theorem Frm.trN {S p : Addr} {o : HO} {H H1 : Hp} (b : H1 p = none) (a : Frm S H H1) : Frm S H (upd H1 p o) := a.trans (Same.frm (Same.new b))
theorem Frm.trS {S : Addr} {H H1 H2 : Hp} (b : Same H1 H2) (a : Frm S H H1) : Frm S H H2 := a.trans (Same.frm b)
theorem Frm.trU {S : Addr} {o : HO} {H H1 : Hp} (a : Frm S H H1) : Frm S H (upd H1 S o) := a.trans Frm.set
theorem same_tr {H H1 H2 : Hp} (b : Same H1 H2) (a : Same H H1) : Same H H2 := a.trans b
theorem same_trN {p : Addr} {o : HO} {H H1 : Hp} (b : H1 p = none) (a : Same H H1) : Same H (upd H1 p o) := a.trans (Same.new b)
/-- an object that H does not know may change -/
theorem same_trU {p : Addr} {o : HO} {H H1 : Hp} (n : H p = none) (a : Same H H1) : Same H (upd H1 p o) := fun b u e => by
  rw [upd_ne (ne_of_none e n)]
  exact a b u e
theorem same_free {H H' : Hp} {p : Addr} (n : H' p = none) (a : Same H H') : H p = none := a.free n
theorem frm_free {S p : Addr} {H H' : Hp} (n : H' p = none) (k : p ≠ S) (a : Frm S H H') : H p = none := a.free k n
end Mc
namespace Mc
open PySem PySem.Spec PyProof.Rows L2
theorem Frm.trM {S p : Addr} {o : HO} {H H1 : Hp} (n : H p = none) (a : Frm S H H1) : Frm S H (upd H1 p o) := fun b u k e => by
  rw [upd_ne (ne_of_none e n)]
  exact a b u k e
end Mc
/-! the calendar; data -/
namespace Mc
open PySem PySem.Spec PyProof.Rows L2
/-! ### years and months -/
def leap (y : Int) : Bool := (decide (y % 4 = 0) && !decide (y % 100 = 0)) || decide (y % 400 = 0)
def mlen (y m : Int) : Int := if m = 2 then (if leap y = true then 29 else 28) else if m = 4 ∨ m = 6 ∨ m = 9 ∨ m = 11 then 30 else 31
def dateOk (y m d : Int) : Bool := decide ((1 ≤ m ∧ m ≤ 12) ∧ 1 ≤ d ∧ d ≤ mlen y m)
/-- the length of the month with a number -/
def lenN (n : Int) : Int := mlen (n / 12) (n % 12 + 1)
theorem mlen_bd (y m : Int) : 28 ≤ mlen y m ∧ mlen y m ≤ 31 := by
  unfold mlen
  split
  · split <;> omega
  · split <;> omega
theorem lenN_bd (n : Int) : 28 ≤ lenN n ∧ lenN n ≤ 31 := mlen_bd _ _
theorem lenN_ym {y m : Int} (h0 : 0 ≤ m) (h1 : m < 12) : lenN (12 * y + m) = mlen y (m + 1) := by
  unfold lenN
  rw [show (12 * y + m) / 12 = y by omega, show (12 * y + m) % 12 = m by omega]
theorem mlen_any {y y' m : Int} (h : m ≠ 2) : mlen y m = mlen y' m := by
  unfold mlen
  rw [if_neg h, if_neg h]
theorem mlen_days : ∀ m : _root_.Fin 12, (m : Nat) ≠ 1 → ([31, 0, 31, 30, 31, 30, 31, 31, 30, 31, 30, 31] : List Int)[(m : Nat)]? = some (mlen 0 ((m : Nat) + 1 : Int)) := by decide
theorem lenN_days {n k : Int} (h : n % 12 ≠ 1) (hk : ([31, 0, 31, 30, 31, 30, 31, 31, 30, 31, 30, 31] : List Int)[(n % 12).toNat]? = some k) : k = lenN n := by
  have h2 := mlen_days ⟨(n % 12).toNat, by omega⟩ (by show (n % 12).toNat ≠ 1; omega)
  have h3 := hk.symm.trans h2
  have e : ((((n % 12).toNat : Nat) : Int) + 1) = n % 12 + 1 := by omega
  have h4 : k = mlen 0 ((((n % 12).toNat : Nat) : Int) + 1) := Option.some.inj h3
  rw [h4, e]
  exact mlen_any (by omega)
theorem leap_cyc (y k : Int) : leap (y + 400 * k) = leap y := by
  have h1 : (y + 400 * k) % 4 = y % 4 := by omega
  have h2 : (y + 400 * k) % 100 = y % 100 := by omega
  have h3 : (y + 400 * k) % 400 = y % 400 := by omega
  simp only [leap, h1, h2, h3]
theorem lenN_cyc (n k : Int) : lenN (n + 4800 * k) = lenN n := by
  unfold lenN
  rw [show (n + 4800 * k) / 12 = n / 12 + 400 * k by omega, show (n + 4800 * k) % 12 = n % 12 by omega]
  unfold mlen
  rw [leap_cyc]
/-! ### dates: the number of the month, the day -/
abbrev Dt : Type := Int × Int
def dT (s : Dt) : List V := [.int (s.1 / 12), .int (s.1 % 12 + 1), .int s.2]
def okS (s : Dt) : Prop := 1 ≤ s.2 ∧ s.2 ≤ lenN s.1
theorem okS_ok {s : Dt} (h : okS s) : dateOk (s.1 / 12) (s.1 % 12 + 1) s.2 = true := decide_eq_true ⟨by omega, h⟩
theorem num_eq (n : Int) : 12 * (n / 12) + (n % 12 + 1) - 1 = n := by omega
theorem dT_ym {y m d : Int} (h0 : 1 ≤ m) (h1 : m ≤ 12) : dT (12 * y + m - 1, d) = [.int y, .int m, .int d] := by
  unfold dT
  show [V.int ((12 * y + m - 1) / 12), .int ((12 * y + m - 1) % 12 + 1), .int d] = _
  rw [show (12 * y + m - 1) / 12 = y by omega, show (12 * y + m - 1) % 12 + 1 = m by omega]
theorem okS_ym {y m d : Int} (h : dateOk y m d = true) : okS (12 * y + m - 1, d) := by
  obtain ⟨⟨h0, h1⟩, h2, h3⟩ := of_decide_eq_true h
  refine ⟨h2, ?_⟩
  show d ≤ lenN (12 * y + m - 1)
  rw [show 12 * y + m - 1 = 12 * y + (m - 1) by omega, lenN_ym (by omega) (by omega), show m - 1 + 1 = m by omega]
  exact h3
/-- one step -/
def mvS (s : Dt) (k : Int) : Dt := (s.1 + k, min s.2 (lenN (s.1 + k)))
def mvL (s : Dt) (ns : List Int) : Dt := ns.foldl mvS s
theorem fold_at {α β : Type} {f : β → α → β} {b : β} {xs : List α} {i : Nat} {x : α} (h : xs[i]? = some x) : (xs.take (i + 1)).foldl f b = f ((xs.take i).foldl f b) x := by
  rw [List.take_add_one, h]
  simp only [Option.toList, List.foldl_append, List.foldl_cons, List.foldl_nil]
theorem okS_mv {s : Dt} (h : okS s) (k : Int) : okS (mvS s k) := by
  have := lenN_bd (s.1 + k)
  unfold okS mvS at *
  simp only
  omega
theorem okS_mvL : ∀ {ns : List Int} {s : Dt}, okS s → okS (mvL s ns)
  | [], _, h => h
  | k :: ns, s, h => okS_mvL (ns := ns) (okS_mv h k)
/-! ### least items -/
theorem foldl_min_le : ∀ (l : List Int) (a : Int), l.foldl min a ≤ a ∧ ∀ x ∈ l, l.foldl min a ≤ x
  | [], a => ⟨Int.le_refl _, fun x h => by cases h⟩
  | b :: l, a => by
    obtain ⟨h1, h2⟩ := foldl_min_le l (min a b)
    refine ⟨by simp only [List.foldl_cons]; omega, fun x h => ?_⟩
    simp only [List.foldl_cons]
    rcases List.mem_cons.mp h with e | e
    · subst e; omega
    · exact h2 x e
theorem foldl_min_mem : ∀ (l : List Int) (a : Int), l.foldl min a ∈ a :: l
  | [], a => by simp
  | b :: l, a => by
    have h := foldl_min_mem l (min a b)
    simp only [List.foldl_cons]
    rcases List.mem_cons.mp h with e | e
    · rw [e]
      rcases Int.le_total a b with q | q
      · rw [Int.min_eq_left q]; simp
      · rw [Int.min_eq_right q]; simp
    · exact List.mem_cons_of_mem _ (List.mem_cons_of_mem _ e)
theorem min_eq {l : List Int} {a m : Int} (h1 : m ∈ a :: l) (h2 : ∀ y, y ∈ a :: l → m ≤ y) : m = l.foldl min a := by
  obtain ⟨q1, q2⟩ := foldl_min_le l a
  have e1 : m ≤ l.foldl min a := h2 _ (foldl_min_mem l a)
  rcases List.mem_cons.mp h1 with e | e
  · omega
  · have := q2 _ e; omega
/-! ### renewals -/
def anN (s : Dt) (k t : Int) : Dt := mvS s (k * t)
def rnL (n s : Int) (k : Nat) : List Int := (List.range k).map fun (i : Nat) => lenN (n + s * (i : Int))
def rnN (s : Dt) (k t : Int) : Dt := (s.1 + k * t, (rnL s.1 k ((min t 4800).toNat + 1)).foldl min s.2)
theorem rnL_succ (n s : Int) (k : Nat) : rnL n s (k + 1) = rnL n s k ++ [lenN (n + s * (k : Int))] := by
  unfold rnL
  rw [List.range_succ, List.map_append]
  rfl
theorem rnL_len (n s : Int) (k : Nat) : (rnL n s k).length = k := by simp [rnL]
/-- great numbers' bound -/
def Big (i : Int) : Prop := i.natAbs < 2 ^ 2000
theorem big_of {i : Int} (h0 : -1000000000000000000000000000000000000000000000000000000000000 ≤ i) (h1 : i ≤ 1000000000000000000000000000000000000000000000000000000000000) : Big i := by
  unfold Big
  have : (1000000000000000000000000000000000000000000000000000000000000 : Nat) < 2 ^ 2000 := by decide
  omega
theorem nat_of {i : Int} {b : Nat} (h0 : 0 ≤ i) (h : i < (2 ^ b : Nat)) : i.natAbs < 2 ^ b := by omega
/-! ### data -/
def dD (s : Dt) : PyData := .tuple [.int (s.1 / 12), .int (s.1 % 12 + 1), .int s.2]
section
variable {K : PySem.W.Frag} {H : Hp} {Q : VK}
theorem dp_date {a : Addr} {s : Dt} (h : H a = some (.tup (dT s))) : Dp K H (.ref a) (dD s) := .tup (SqT.of h) (.cons (.int _) (.cons (.int _) (.cons (.int _) .nil)))
theorem st_eqD {x y : V} {d : PyData} (hx : Dp K H x d) (hy : Dp K H y d) (hs : SeqAt.shaped d = true) (q : Q (.bl true) H) : rEqD K x y H Q :=
  ⟨d, d, hx, hy, hs, hs, by rw [SeqAt.eqv_refl d (SeqAt.canLay_of_shaped hs)]; exact q⟩
theorem st_neD {x y : V} {d : PyData} (hx : Dp K H x d) (hy : Dp K H y d) (hs : SeqAt.shaped d = true) (q : Q (.bl false) H) : rNeD K x y H Q :=
  ⟨d, d, hx, hy, hs, hs, by rw [SeqAt.eqv_refl d (SeqAt.canLay_of_shaped hs)]; exact q⟩
theorem sh_dD (s : Dt) : SeqAt.shaped (dD s) = true := rfl
theorem st_cutK {t : TE} {σ : L2.St} {C : VK} (P : VK) (hk : ∀ v H', P v H' → C v H') (h : ∀ C' : VK, (∀ v H', P v H' → C' v H') → t σ H C') : t σ H C := h C hk
theorem st_cutS {t : TS} {σ : L2.St} {nx : L2.St → Hp → Prop} {rt : VK} {bk ct : L2.St → Hp → Prop} (P : L2.St → Hp → Prop) (hk : ∀ σ H', P σ H' → nx σ H') (h : ∀ nx' : L2.St → Hp → Prop, (∀ σ H', P σ H' → nx' σ H') → t ⟨nx', rt, bk, ct⟩ σ H) : t ⟨nx, rt, bk, ct⟩ σ H := h nx hk
theorem st_slT {a : Addr} {xs : List V} {lo hi : Option Int} (h : SqT K H a xs) (hw : ¬ (HT.sIx xs.length 0 lo = 0 ∧ HT.sIx xs.length xs.length hi = xs.length)) (q : ∀ p, H p = none → Q (.ref p) (upd H p (.tup (cutV xs lo hi)))) : rSlT K (.ref a) lo hi H Q := ⟨a, xs, rfl, h, hw, q⟩
theorem st_slL {a : Addr} {xs : List V} {lo hi : Option Int} (h : SqL K H a xs) (q : ∀ p, H p = none → Q (.ref p) (upd H p (.lst (cutV xs lo hi)))) : rSlL K (.ref a) lo hi H Q := ⟨a, xs, rfl, h, q⟩
theorem st_sl {r : V → Option Int → Option Int → Hp → VK → Prop} {te : TE} {tl th : TO} {σ : L2.St} (h : te σ H fun x H1 => tl σ H1 fun l H2 => th σ H2 fun u H3 => r x l u H3 Q) : tSl r te tl th σ H Q := h
theorem st_pN {σ : L2.St} {R : Option Int → Hp → Prop} (h : R none H) : tNoPart σ H R := h
theorem st_pS {t : TE} {σ : L2.St} {R : Option Int → Hp → Prop} (h : t σ H fun x H1 => ∃ i, x = .int i ∧ R (some i) H1) : tPart t σ H R := h
theorem st_pI {i : Int} {R : Int → Prop} (h : R i) : ∃ k, V.int i = .int k ∧ R k := ⟨i, rfl, h⟩
theorem st_rep {l : Addr} {k : Int} {xs : List V} (h : H l = some (.lst xs)) (h0 : -(2 ^ 63) ≤ k) (h1 : k < 2 ^ 63) (hl : xs.length * k.toNat ≤ 100000) (q : ∀ p, H p = none → Q (.ref p) (upd H p (.lst (List.replicate k.toNat xs).flatten))) : rRep (.ref l) (.int k) H Q :=
  ⟨l, k, xs, rfl, rfl, h, h0, h1, Nat.le_trans hl (by decide), q⟩
theorem call_absI {X : Cx} : CallR X (.builtin "abs") (fun xs H Q => ∃ i, xs = [.int i] ∧ Q (.int (max i (-i))) H) := by
  intro pins s σ H xs us Q I r ⟨i, e, q⟩
  refine call_abs pins s σ H xs us Q I r ⟨i, e, ?_⟩
  have e2 : (if i < 0 then -i else i) = max i (-i) := by omega
  rw [e2]
  exact q
end
end Mc
namespace Mc
open PySem PySem.Spec PyProof.Rows L2
/-! ### renewals: the laws -/
theorem mvS_zero {s : Dt} (h : okS s) : mvS s 0 = s := by
  obtain ⟨n, d⟩ := s
  have h2 : d ≤ lenN n := h.2
  unfold mvS
  simp only [Int.add_zero]
  rw [Int.min_eq_left h2]
theorem anN_zero {s : Dt} (h : okS s) (k : Int) : anN s k 0 = s := by
  unfold anN
  rw [Int.mul_zero]
  exact mvS_zero h
theorem anN_one (s : Dt) (k : Int) : anN s k 1 = mvS s k := by
  unfold anN
  rw [Int.mul_one]
theorem rnN_zero {s : Dt} (h : okS s) (k : Int) : rnN s k 0 = s := by
  obtain ⟨n, d⟩ := s
  have h2 : d ≤ lenN n := h.2
  unfold rnN
  show (n + k * 0, ([lenN (n + k * ((0 : Nat) : Int))] : List Int).foldl min d) = (n, d)
  simp only [List.foldl_cons, List.foldl_nil, Int.mul_zero, Int.add_zero, Int.ofNat_zero, Int.natCast_zero]
  rw [Int.min_eq_left h2]
theorem rnN_one {s : Dt} (h : okS s) (k : Int) : rnN s k 1 = mvS s k := by
  obtain ⟨n, d⟩ := s
  have h2 : d ≤ lenN n := h.2
  unfold rnN mvS
  show (n + k * 1, ([lenN (n + k * ((0 : Nat) : Int)), lenN (n + k * ((1 : Nat) : Int))] : List Int).foldl min d) = (n + k, min d (lenN (n + k)))
  have e0 : n + k * ((0 : Nat) : Int) = n := by simp
  have e1 : n + k * ((1 : Nat) : Int) = n + k := by simp
  rw [e0, e1, Int.mul_one]
  simp only [List.foldl_cons, List.foldl_nil]
  rw [Int.min_eq_left h2]
theorem rn_mem {n s : Int} {k i : Nat} (h : i < k) : lenN (n + s * (i : Int)) ∈ rnL n s k := List.mem_map.mpr ⟨i, List.mem_range.mpr h, rfl⟩
theorem rnN_le {s : Dt} {k t : Int} (ht : 0 ≤ t) : (rnN s k t).2 ≤ (anN s k t).2 := by
  obtain ⟨h1, h2⟩ := foldl_min_le (rnL s.1 k ((min t 4800).toNat + 1)) s.2
  have h3 : (rnN s k t).2 ≤ lenN (s.1 + k * t) := by
    by_cases h : t ≤ 4800
    · have q := h2 _ (rn_mem (n := s.1) (s := k) (i := t.toNat) (by omega))
      have e : ((t.toNat : Nat) : Int) = t := by omega
      rw [e] at q
      exact q
    · have q := h2 _ (rn_mem (n := s.1) (s := k) (i := (t % 4800).toNat) (by omega))
      have e : (((t % 4800).toNat : Nat) : Int) = t % 4800 := by omega
      rw [e, ← lenN_cyc _ (k * (t / 4800))] at q
      have e2 : s.1 + k * (t % 4800) + 4800 * (k * (t / 4800)) = s.1 + k * t := by
        rw [Int.mul_left_comm, Int.add_assoc, ← Int.mul_add, Int.emod_add_mul_ediv]
      rw [e2] at q
      exact q
  have h4 : (anN s k t).2 = min s.2 (lenN (s.1 + k * t)) := rfl
  have h5 : (rnN s k t).2 ≤ s.2 := h1
  omega
end Mc
namespace Mc
open PySem PySem.Spec PyProof.Rows L2
/-- behind a statement that stores nothing: what base knows stands -/
theorem st_cutI {t : TS} {σ : L2.St} {H : Hp} {nx : L2.St → Hp → Prop} {rt : VK} {bk ct : L2.St → Hp → Prop} (base : Hp) (hk : ∀ H', Same base H' → nx σ H')
    (h : ∀ nx' : L2.St → Hp → Prop, (∀ H', Same base H' → nx' σ H') → t ⟨nx', rt, bk, ct⟩ σ H) : t ⟨nx, rt, bk, ct⟩ σ H := h nx hk
theorem cutV_two {a b c : V} : cutV [a, b, c] none (some 2) = [a, b] := by
  unfold cutV
  rfl
theorem dT_fst {s s' : Dt} (h : s.1 = s'.1) : cutV (dT s) none (some 2) = cutV (dT s') none (some 2) := by
  unfold dT
  rw [cutV_two, cutV_two, h]
end Mc
namespace Mc
open PySem PySem.Spec PyProof.Rows L2
section
variable {σ : L2.St} {H : Hp} {te : TE} {nx : L2.St → Hp → Prop} {rt : VK} {bk ct : L2.St → Hp → Prop}
theorem st_setF {n : Nat} {f : V → L2.St} (e : ∀ x, List.set σ n (some x) = f x) (h : te σ H fun x H1 => nx (f x) H1) : tAsg te (gName n) ⟨nx, rt, bk, ct⟩ σ H := by
  have e2 : (fun x => List.set σ n (some x)) = f := funext e
  subst e2
  exact h
theorem st_gNF {n : Nat} {x : V} {σ' : L2.St} {R : L2.St → Hp → Prop} (e : List.set σ n (some x) = σ') (h : R σ' H) : gName n x σ H R := by
  subst e
  exact h
theorem st_parF {n m : Nat} {ta : TA} {f : V → V → L2.St} (e : ∀ v w, (List.set σ n (some v)).set m (some w) = f v w) (h : ta σ H fun vs H1 => ∃ v w, vs = [v, w] ∧ nx (f v w) H1) : tPar n m ta ⟨nx, rt, bk, ct⟩ σ H := by
  have e2 : (fun v w => (List.set σ n (some v)).set m (some w)) = f := funext fun v => funext (e v)
  subst e2
  exact h
theorem st_augF {n : Nat} {ti : TIp} {x : V} {f : V → L2.St} (hx : σ[n]? = some (some x)) (e : ∀ z, List.set σ n (some z) = f z) (h : te σ H fun y H1 => ti x y H1 fun z H2 => nx (f z) H2) : tAug n te ti ⟨nx, rt, bk, ct⟩ σ H := by
  have e2 : (fun z => List.set σ n (some z)) = f := funext e
  subst e2
  exact ⟨x, hx, h⟩
end
end Mc
namespace Mc
open PySem PySem.Spec PyProof.Rows L2
section
variable {K : PySem.W.Frag} {H : Hp} {Q : VK}
theorem tyx_list {a : Addr} {xs : List V} (h : SqL K H a xs) : TyX K H (.ref a) (.type "list") := by
  rcases h with (h | ⟨o, h⟩) | ⟨o, _, _, h, hc, _⟩
  · exact .base (.lst h)
  · exact .base (.frz h)
  · exact .kList h hc
theorem tyx_tup {a : Addr} {xs : List V} (h : SqT K H a xs) : TyX K H (.ref a) (.type "tuple") := by
  rcases h with (h | ⟨o, h⟩) | ⟨o, _, _, h, hc, _⟩
  · exact .base (.tup h)
  · exact .fTuple h
  · exact .kTuple h hc
theorem st_isi {x : V} {t n : String} {b : Bool} (hx : TyX K H x (.type t)) (e : kitB t n = some b) (q : Q (.bl b) H) : rIsi K [x, .ty n] H Q := ⟨x, .ty n, .type t, .type n, b, rfl, .ty n, hx, kit_ty e, q⟩
/-- the type's name of plain data -/
def tyN : PyData → String
  | .none => "NoneType" | .bool _ => "bool" | .int _ => "int" | .str _ => "str" | .list _ => "list" | .tuple _ => "tuple" | .dict _ => "dict"
theorem tyx_dp {x : V} {d : PyData} (h : Dp K H x d) : TyX K H x (.type (tyN d)) := by
  cases h with
  | non => exact .base .non
  | bl b => exact .base (.bl b)
  | int i => exact .base (.int i)
  | str x => exact .base (.str x)
  | lst h _ => exact tyx_list h
  | tup h _ => exact tyx_tup h
theorem st_isiD {x : V} {d : PyData} {n : String} {b : Bool} (hx : Dp K H x d) (e : kitB (tyN d) n = some b) (q : Q (.bl b) H) : rIsi K [x, .ty n] H Q := st_isi (tyx_dp hx) e q
mutual
theorem Dp.same {H' : Hp} (e : Same H H') : ∀ {d : PyData} {x : V}, Dp K H x d → Dp K H' x d
  | _, _, .non => .non
  | _, _, .bl b => .bl b
  | _, _, .int i => .int i
  | _, _, .str x => .str x
  | _, _, .lst h a => .lst (e.seq h) (DpAll.same e a)
  | _, _, .tup h a => .tup (Same.tup e h) (DpAll.same e a)
theorem DpAll.same {H' : Hp} (e : Same H H') : ∀ {ds : List PyData} {xs : List V}, DpAll K H xs ds → DpAll K H' xs ds
  | _, _, .nil => .nil
  | _, _, .cons h a => .cons (Dp.same e h) (DpAll.same e a)
end
theorem DpAll.len : ∀ {xs : List V} {ds : List PyData}, DpAll K H xs ds → xs.length = ds.length
  | _, _, .nil => rfl
  | _, _, .cons _ a => by rw [List.length_cons, List.length_cons, DpAll.len a]
theorem DpAll.get : ∀ {xs : List V} {ds : List PyData} {i : Nat} {x : V}, DpAll K H xs ds → xs[i]? = some x → ∃ d, ds[i]? = some d ∧ Dp K H x d
  | _, _, _, _, .nil, h => by cases h
  | _, _, 0, _, .cons h _, e => by cases e; exact ⟨_, rfl, h⟩
  | _ :: vs, _ :: ds, i + 1, x, .cons _ a, e => by
    have e2 : vs[i]? = some x := e
    obtain ⟨d, h1, h2⟩ := DpAll.get a e2
    exact ⟨d, h1, h2⟩
end
theorem lay_get : ∀ {ds : List PyData} {i : Nat} {d : PyData}, PyData.canLayAll0 ds = true → ds[i]? = some d → d.canLay0 = true
  | [], _, _, _, h => by cases h
  | d :: ds, 0, _, hl, h => by
    cases h
    unfold PyData.canLayAll0 at hl
    exact (Bool.and_eq_true_iff.mp hl).1
  | d :: ds, i + 1, _, hl, h => by
    unfold PyData.canLayAll0 at hl
    exact lay_get (Bool.and_eq_true_iff.mp hl).2 h
theorem depth_get : ∀ {ds : List PyData} {i : Nat} {d : PyData}, ds[i]? = some d → d.depth ≤ PyData.depthAll ds
  | [], _, _, h => by cases h
  | d :: ds, 0, _, h => by
    cases h
    unfold PyData.depthAll
    exact Nat.le_max_left _ _
  | d :: ds, i + 1, _, h => by
    unfold PyData.depthAll
    exact Nat.le_trans (depth_get (ds := ds) h) (Nat.le_max_right _ _)
end Mc
namespace Mc
theorem lenN_feb {n : Int} (h : n % 12 = 1) : (28 + if leap (n / 12) = true then 1 else 0) = lenN n := by
  have h2 : n % 12 + 1 = 2 := by omega
  unfold lenN mlen
  rw [if_pos h2]
  cases leap (n / 12) <;> rfl
theorem lenN_oth {n : Int} (h : ¬ n % 12 = 1) : (31 - if decide (n % 12 ∈ [3, 5, 8, 10]) = true then 1 else 0) = lenN n := by
  have h2 : ¬ n % 12 + 1 = 2 := by omega
  unfold lenN mlen
  rw [if_neg h2]
  by_cases q : n % 12 ∈ [3, 5, 8, 10]
  · have q2 := q
    simp only [List.mem_cons, List.not_mem_nil, or_false] at q2
    have h3 : n % 12 + 1 = 4 ∨ n % 12 + 1 = 6 ∨ n % 12 + 1 = 9 ∨ n % 12 + 1 = 11 := by omega
    rw [decide_eq_true q, if_pos h3]
    rfl
  · have q2 := q
    simp only [List.mem_cons, List.not_mem_nil, or_false] at q2
    have h3 : ¬ (n % 12 + 1 = 4 ∨ n % 12 + 1 = 6 ∨ n % 12 + 1 = 9 ∨ n % 12 + 1 = 11) := by omega
    rw [decide_eq_false q, if_neg h3]
    rfl
end Mc
namespace Mc
open PySem PySem.Spec PyProof.Rows L2
/-- all but the objects at S, D is as it was -/
def Frm2 (S D : Addr) (H H' : Hp) : Prop := ∀ b o, b ≠ S → b ≠ D → H b = some o → H' b = some o
section
variable {S D : Addr} {H H1 H2 : Hp}
theorem Frm2.refl (H : Hp) : Frm2 S D H H := fun _ _ _ _ h => h
theorem Frm2.tr (b : Frm2 S D H1 H2) (a : Frm2 S D H H1) : Frm2 S D H H2 := fun c o n m h => b c o n m (a c o n m h)
theorem Frm2.trN {p : Addr} {o : HO} (b : H1 p = none) (a : Frm2 S D H H1) : Frm2 S D H (upd H1 p o) := fun c u n m e => Same.new b c u (a c u n m e)
theorem Frm2.trS (b : Same H1 H2) (a : Frm2 S D H H1) : Frm2 S D H H2 := fun c o n m h => b c o (a c o n m h)
theorem Frm2.trU {o : HO} (a : Frm2 S D H H1) : Frm2 S D H (upd H1 S o) := fun c u n m e => by
  rw [upd_ne n]
  exact a c u n m e
theorem Frm2.trV {o : HO} (a : Frm2 S D H H1) : Frm2 S D H (upd H1 D o) := fun c u n m e => by
  rw [upd_ne m]
  exact a c u n m e
theorem Frm2.trM {p : Addr} {o : HO} (k : H p = none) (a : Frm2 S D H H1) : Frm2 S D H (upd H1 p o) := fun c u n m e => by
  rw [upd_ne (ne_of_none e k)]
  exact a c u n m e
theorem hp_frm2 {a : Addr} {o : HO} (e : Frm2 S D H H1) (n : a ≠ S) (m : a ≠ D) (q : H a = some o) : H1 a = some o := e _ _ n m q
theorem Frm2.seq {K : PySem.W.Frag} {a : Addr} {xs : List V} (e : Frm2 S D H H1) (n : a ≠ S) (m : a ≠ D) (h : SqL K H a xs) : SqL K H1 a xs := by
  rcases h with (h | ⟨o, h⟩) | h
  · exact .inl (.inl (e _ _ n m h))
  · exact .inl (.inr ⟨o, e _ _ n m h⟩)
  · exact .inr h
theorem Frm2.tup {K : PySem.W.Frag} {a : Addr} {xs : List V} (e : Frm2 S D H H1) (n : a ≠ S) (m : a ≠ D) (h : SqT K H a xs) : SqT K H1 a xs := by
  rcases h with (h | ⟨o, h⟩) | h
  · exact .inl (.inl (e _ _ n m h))
  · exact .inl (.inr ⟨o, e _ _ n m h⟩)
  · exact .inr h
theorem Frm2.free {l : Addr} (h : H1 l = none) (n : l ≠ S) (m : l ≠ D) (e : Frm2 S D H H1) : H l = none := by
  cases q : H l with
  | none => rfl
  | some o =>
    rw [e l o n m q] at h
    cases h
theorem Same.by2 {H0 : Hp} (a : Same H0 H) (n : H0 S = none) (m : H0 D = none) (f : Frm2 S D H H1) : Same H0 H1 := fun b o e => f b o (ne_of_none e n) (ne_of_none e m) (a b o e)
end
theorem lay_ints : ∀ ns : List Int, PyData.canLayAll0 (ns.map PyData.int) = true
  | [] => rfl
  | n :: ns => by
    rw [List.map_cons]
    unfold PyData.canLayAll0
    rw [lay_ints ns]
    rfl
theorem depth_ints : ∀ ns : List Int, PyData.depthAll (ns.map PyData.int) = 0
  | [] => rfl
  | n :: ns => by
    rw [List.map_cons]
    unfold PyData.depthAll
    rw [depth_ints ns]
    rfl
theorem sh_ints (ns : List Int) : SeqAt.shaped (.list (ns.map PyData.int)) = true := by
  unfold SeqAt.shaped
  rw [show (PyData.list (ns.map PyData.int)).canLay0 = PyData.canLayAll0 (ns.map PyData.int) from by unfold PyData.canLay0; rfl, lay_ints,
    show (PyData.list (ns.map PyData.int)).depth = PyData.depthAll (ns.map PyData.int) + 1 from by unfold PyData.depth; rfl, depth_ints]
  rfl
theorem dp_ints {K : PySem.W.Frag} {H : Hp} : ∀ ns : List Int, DpAll K H (ns.map V.int) (ns.map PyData.int)
  | [] => .nil
  | n :: ns => .cons (.int n) (dp_ints ns)
theorem dp_intL {K : PySem.W.Frag} {H : Hp} {a : Addr} {ns : List Int} (h : SqL K H a (ns.map V.int)) : Dp K H (.ref a) (.list (ns.map PyData.int)) := .lst h (dp_ints ns)
/-- xs != [] -/
theorem st_neNil {K : PySem.W.Frag} {H : Hp} {Q : VK} {a b : Addr} {ns : List Int} (h : SqL K H a (ns.map V.int)) (hb : SqL K H b []) (q : Q (.bl (!ns.isEmpty)) H) : rNeD K (.ref a) (.ref b) H Q := by
  refine ⟨_, .list [], dp_intL h, .lst hb .nil, sh_ints ns, rfl, ?_⟩
  cases ns with
  | nil => exact q
  | cons n ns => exact q
theorem st_whI {c : TT} {tb : TS} {σ : L2.St} {H : Hp} {nx : L2.St → Hp → Prop} {rt : VK} {bk ct : L2.St → Hp → Prop} (W : Nat → L2.St → Hp → Prop) (h0 : ∃ m, W m σ H)
    (h : ∀ m σ H, W m σ H → c σ H fun b H1 => if b = true then tb ⟨fun σ' H' => ∃ m', m' < m ∧ W m' σ' H', rt, nx, fun σ' H' => ∃ m', m' < m ∧ W m' σ' H'⟩ σ H1 else nx σ H1)
    (mono : ∀ σ H Q Q', (∀ b H1, Q b H1 → Q' b H1) → c σ H Q → c σ H Q') : tWhile c tb ⟨nx, rt, bk, ct⟩ σ H := by
  refine ⟨W, h0, fun m σ H hW => mono _ _ _ _ (fun b H1 q => ?_) (h m σ H hW)⟩
  cases b with
  | true =>
    rw [if_pos rfl] at q ⊢
    exact ⟨_, fun _ _ x => x, q⟩
  | false =>
    rw [if_neg Bool.false_ne_true] at q ⊢
    exact q
end Mc
namespace Mc
open PySem PySem.Spec PyProof.Rows L2
theorem st_wh {c : TT} {tb : TS} {σ : L2.St} {H : Hp} {nx : L2.St → Hp → Prop} {rt : VK} {bk ct : L2.St → Hp → Prop} (W : Nat → L2.St → Hp → Prop) (h0 : ∃ m, W m σ H)
    (h : ∀ m σ H, W m σ H → c σ H fun b H1 => if b = true then ∃ N : L2.St → Hp → Prop, (∀ σ' H', N σ' H' → ∃ m', m' < m ∧ W m' σ' H') ∧ tb ⟨N, rt, nx, N⟩ σ H1 else nx σ H1) :
    tWhile c tb ⟨nx, rt, bk, ct⟩ σ H := ⟨W, h0, h⟩
theorem st_whN {tb : TS} {σ : L2.St} {H : Hp} {nx : L2.St → Hp → Prop} {rt : VK} {W : Nat → L2.St → Hp → Prop} {m : Nat}
    (h : tb ⟨fun σ' H' => ∃ m', m' < m ∧ W m' σ' H', rt, nx, fun σ' H' => ∃ m', m' < m ∧ W m' σ' H'⟩ σ H) :
    ∃ N : L2.St → Hp → Prop, (∀ σ' H', N σ' H' → ∃ m', m' < m ∧ W m' σ' H') ∧ tb ⟨N, rt, nx, N⟩ σ H := ⟨_, fun _ _ x => x, h⟩
theorem st_popAt {p : Addr} {xs : List V} {y : V} {H : Hp} {Q : VK} (h : H p = some (.lst (y :: xs))) (q : Q y (upd H p (.lst xs))) : rPopAt (.ref p) [.int 0] H Q :=
  ⟨p, y :: xs, 0, 0, y, rfl, rfl, h, by decide, by decide, seqIndex_of (by decide) (by rw [List.length_cons]; omega), rfl, q⟩
end Mc
namespace Mc
open PySem PySem.Spec PyProof.Rows L2
/-- len of a list or tuple -/
def rLenQ (K : PySem.W.Frag) : List V → Hp → VK → Prop := fun xs H Q => ∃ p ys, xs = [.ref p] ∧ (SqL K H p ys ∨ SqT K H p ys) ∧ Q (.int ys.length) H
theorem call_lenQ {X : Cx} : CallR X (.builtin "len") (rLenQ X.K) := call_len_seq
theorem st_lenQ {K : PySem.W.Frag} {H : Hp} {Q : VK} {p : Addr} {xs : List V} (h : SqL K H p xs) (q : Q (.int xs.length) H) : rLenQ K [.ref p] H Q := ⟨p, xs, rfl, .inl h, q⟩
theorem st_lenQT {K : PySem.W.Frag} {H : Hp} {Q : VK} {p : Addr} {xs : List V} (h : SqT K H p xs) (q : Q (.int xs.length) H) : rLenQ K [.ref p] H Q := ⟨p, xs, rfl, .inr h, q⟩
end Mc
namespace Mc
open PySem PySem.Spec PyProof.Rows L2
section
variable {K : PySem.W.Frag} {H : Hp} {Q : VK}
theorem isi_non_bool (q : Q (.bl false) H) : rIsi K [.non, .ty "bool"] H Q := st_isi (t := "NoneType") (.base .non) (by decide +kernel) q
theorem isi_non_int (q : Q (.bl false) H) : rIsi K [.non, .ty "int"] H Q := st_isi (t := "NoneType") (.base .non) (by decide +kernel) q
theorem isi_non_str (q : Q (.bl false) H) : rIsi K [.non, .ty "str"] H Q := st_isi (t := "NoneType") (.base .non) (by decide +kernel) q
theorem isi_non_list (q : Q (.bl false) H) : rIsi K [.non, .ty "list"] H Q := st_isi (t := "NoneType") (.base .non) (by decide +kernel) q
theorem isi_non_tuple (q : Q (.bl false) H) : rIsi K [.non, .ty "tuple"] H Q := st_isi (t := "NoneType") (.base .non) (by decide +kernel) q
theorem isi_bl_bool {b : Bool} (q : Q (.bl true) H) : rIsi K [.bl b, .ty "bool"] H Q := st_isi (t := "bool") (.base (.bl b)) (by decide +kernel) q
theorem isi_bl_int {b : Bool} (q : Q (.bl true) H) : rIsi K [.bl b, .ty "int"] H Q := st_isi (t := "bool") (.base (.bl b)) (by decide +kernel) q
theorem isi_bl_str {b : Bool} (q : Q (.bl false) H) : rIsi K [.bl b, .ty "str"] H Q := st_isi (t := "bool") (.base (.bl b)) (by decide +kernel) q
theorem isi_bl_list {b : Bool} (q : Q (.bl false) H) : rIsi K [.bl b, .ty "list"] H Q := st_isi (t := "bool") (.base (.bl b)) (by decide +kernel) q
theorem isi_bl_tuple {b : Bool} (q : Q (.bl false) H) : rIsi K [.bl b, .ty "tuple"] H Q := st_isi (t := "bool") (.base (.bl b)) (by decide +kernel) q
theorem isi_int_bool {i : Int} (q : Q (.bl false) H) : rIsi K [.int i, .ty "bool"] H Q := st_isi (t := "int") (.base (.int i)) (by decide +kernel) q
theorem isi_int_int {i : Int} (q : Q (.bl true) H) : rIsi K [.int i, .ty "int"] H Q := st_isi (t := "int") (.base (.int i)) (by decide +kernel) q
theorem isi_int_str {i : Int} (q : Q (.bl false) H) : rIsi K [.int i, .ty "str"] H Q := st_isi (t := "int") (.base (.int i)) (by decide +kernel) q
theorem isi_int_list {i : Int} (q : Q (.bl false) H) : rIsi K [.int i, .ty "list"] H Q := st_isi (t := "int") (.base (.int i)) (by decide +kernel) q
theorem isi_int_tuple {i : Int} (q : Q (.bl false) H) : rIsi K [.int i, .ty "tuple"] H Q := st_isi (t := "int") (.base (.int i)) (by decide +kernel) q
theorem isi_str_bool {x : Str} (q : Q (.bl false) H) : rIsi K [.str x, .ty "bool"] H Q := st_isi (t := "str") (.base (.str x)) (by decide +kernel) q
theorem isi_str_int {x : Str} (q : Q (.bl false) H) : rIsi K [.str x, .ty "int"] H Q := st_isi (t := "str") (.base (.str x)) (by decide +kernel) q
theorem isi_str_str {x : Str} (q : Q (.bl true) H) : rIsi K [.str x, .ty "str"] H Q := st_isi (t := "str") (.base (.str x)) (by decide +kernel) q
theorem isi_str_list {x : Str} (q : Q (.bl false) H) : rIsi K [.str x, .ty "list"] H Q := st_isi (t := "str") (.base (.str x)) (by decide +kernel) q
theorem isi_str_tuple {x : Str} (q : Q (.bl false) H) : rIsi K [.str x, .ty "tuple"] H Q := st_isi (t := "str") (.base (.str x)) (by decide +kernel) q
theorem isi_list_bool {a : Addr} {xs : List V} (h : SqL K H a xs) (q : Q (.bl false) H) : rIsi K [.ref a, .ty "bool"] H Q := st_isi (t := "list") (tyx_list h) (by decide +kernel) q
theorem isi_list_int {a : Addr} {xs : List V} (h : SqL K H a xs) (q : Q (.bl false) H) : rIsi K [.ref a, .ty "int"] H Q := st_isi (t := "list") (tyx_list h) (by decide +kernel) q
theorem isi_list_str {a : Addr} {xs : List V} (h : SqL K H a xs) (q : Q (.bl false) H) : rIsi K [.ref a, .ty "str"] H Q := st_isi (t := "list") (tyx_list h) (by decide +kernel) q
theorem isi_list_list {a : Addr} {xs : List V} (h : SqL K H a xs) (q : Q (.bl true) H) : rIsi K [.ref a, .ty "list"] H Q := st_isi (t := "list") (tyx_list h) (by decide +kernel) q
theorem isi_list_tuple {a : Addr} {xs : List V} (h : SqL K H a xs) (q : Q (.bl false) H) : rIsi K [.ref a, .ty "tuple"] H Q := st_isi (t := "list") (tyx_list h) (by decide +kernel) q
theorem isi_tuple_bool {a : Addr} {xs : List V} (h : SqT K H a xs) (q : Q (.bl false) H) : rIsi K [.ref a, .ty "bool"] H Q := st_isi (t := "tuple") (tyx_tup h) (by decide +kernel) q
theorem isi_tuple_int {a : Addr} {xs : List V} (h : SqT K H a xs) (q : Q (.bl false) H) : rIsi K [.ref a, .ty "int"] H Q := st_isi (t := "tuple") (tyx_tup h) (by decide +kernel) q
theorem isi_tuple_str {a : Addr} {xs : List V} (h : SqT K H a xs) (q : Q (.bl false) H) : rIsi K [.ref a, .ty "str"] H Q := st_isi (t := "tuple") (tyx_tup h) (by decide +kernel) q
theorem isi_tuple_list {a : Addr} {xs : List V} (h : SqT K H a xs) (q : Q (.bl false) H) : rIsi K [.ref a, .ty "list"] H Q := st_isi (t := "tuple") (tyx_tup h) (by decide +kernel) q
theorem isi_tuple_tuple {a : Addr} {xs : List V} (h : SqT K H a xs) (q : Q (.bl true) H) : rIsi K [.ref a, .ty "tuple"] H Q := st_isi (t := "tuple") (tyx_tup h) (by decide +kernel) q
theorem st_isN {x y : V} (e : y = .non) (q : Q (.bl (decide (x = .non))) H) : y = V.non ∧ Q (.bl (decide (x = .non))) H := ⟨e, q⟩
theorem st_ixSL {a : Addr} {xs : List V} {i : Int} {v : V} (h : SqL K H a xs) (ha : atI xs i = some v) (q : Q v H) : rIx K (.ref a) (.int i) H Q := .inl ⟨a, xs, i, v, rfl, rfl, h, ha, q⟩
theorem st_ixST {a : Addr} {xs : List V} {i : Int} {v : V} (h : SqT K H a xs) (ha : atI xs i = some v) (q : Q v H) : rIx K (.ref a) (.int i) H Q := .inr (.inl ⟨a, xs, i, v, rfl, rfl, h, ha, q⟩)
end
end Mc
namespace Mc
theorem st_iNT {A B : Prop} (h : A) : if (!false) = true then A else B := L2.iteT h
theorem st_iNF {A B : Prop} (h : B) : if (!true) = true then A else B := L2.iteF h
theorem st_iRf {α : Type} {x : α} [Decidable (x = x)] {A B : Prop} (h : A) : if decide (x = x) = true then A else B := by rw [decide_eq_true rfl]; exact L2.iteT h
theorem st_iNRf {α : Type} {x : α} [Decidable (x = x)] {A B : Prop} (h : B) : if (!decide (x = x)) = true then A else B := by rw [decide_eq_true rfl]; exact L2.iteF h
end Mc
namespace Mc
open PySem PySem.Spec PyProof.Rows L2
mutual
/-- how many parts data have -/
def cntD : PyData → Nat
  | .list xs => cntA xs + 1
  | .tuple xs => cntA xs + 1
  | .none => 1
  | .bool _ => 1
  | .int _ => 1
  | .str _ => 1
  | .dict _ => 1
def cntA : List PyData → Nat
  | [] => 0
  | x :: xs => cntD x + cntA xs
end
theorem cntD_pos : ∀ d : PyData, 1 ≤ cntD d
  | .list xs => by unfold cntD; omega
  | .tuple xs => by unfold cntD; omega
  | .none => by unfold cntD; omega
  | .bool _ => by unfold cntD; omega
  | .int _ => by unfold cntD; omega
  | .str _ => by unfold cntD; omega
  | .dict _ => by unfold cntD; omega
theorem cntA_len : ∀ ds : List PyData, ds.length ≤ cntA ds
  | [] => Nat.zero_le _
  | d :: ds => by
    have := cntA_len ds
    have := cntD_pos d
    unfold cntA
    rw [List.length_cons]
    omega
theorem cntA_get : ∀ {ds : List PyData} {i : Nat} {d : PyData}, ds[i]? = some d → cntD d ≤ cntA ds
  | [], _, _, h => by cases h
  | d :: ds, 0, _, h => by
    cases h
    unfold cntA
    omega
  | d :: ds, i + 1, _, h => by
    have := cntA_get (ds := ds) h
    unfold cntA
    omega
theorem cnt_ints : ∀ ns : List Int, cntA (ns.map PyData.int) = ns.length
  | [] => rfl
  | n :: ns => by
    rw [List.map_cons]
    unfold cntA
    rw [cnt_ints ns, List.length_cons]
    unfold cntD
    omega
end Mc
/-! data that are small enough to be compared; years and their months -/
namespace Mc
open PySem PySem.Spec PyProof.Rows L2
/-- data of depth n at most and c parts at most, laid out -/
def Sm (d : PyData) (n c : Nat) : Prop := d.canLay0 = true ∧ d.depth ≤ n ∧ cntD d ≤ c
def SmA (ds : List PyData) (n c : Nat) : Prop := PyData.canLayAll0 ds = true ∧ PyData.depthAll ds ≤ n ∧ cntA ds ≤ c
theorem Sm.nil : SmA [] 0 0 := ⟨rfl, Nat.zero_le _, Nat.zero_le _⟩
theorem Sm.cons {d : PyData} {ds : List PyData} {n m c c' : Nat} (h : Sm d n c) (h' : SmA ds m c') : SmA (d :: ds) (max n m) (c + c') := by
  obtain ⟨a, b, e⟩ := h
  obtain ⟨a', b', e'⟩ := h'
  refine ⟨?_, ?_, ?_⟩
  · unfold PyData.canLayAll0
    rw [a, a']
    rfl
  · unfold PyData.depthAll
    omega
  · unfold cntA
    omega
theorem Sm.list {ds : List PyData} {n c : Nat} (h : SmA ds n c) : Sm (.list ds) (n + 1) (c + 1) := by
  obtain ⟨a, b, e⟩ := h
  refine ⟨?_, ?_, ?_⟩
  · unfold PyData.canLay0
    exact a
  · unfold PyData.depth
    omega
  · unfold cntD
    omega
theorem Sm.tuple {ds : List PyData} {n c : Nat} (h : SmA ds n c) : Sm (.tuple ds) (n + 1) (c + 1) := by
  obtain ⟨a, b, e⟩ := h
  refine ⟨?_, ?_, ?_⟩
  · unfold PyData.canLay0
    exact a
  · unfold PyData.depth
    omega
  · unfold cntD
    omega
theorem Sm.int (i : Int) : Sm (.int i) 0 1 := ⟨by unfold PyData.canLay0; rfl, by unfold PyData.depth; omega, by unfold cntD; omega⟩
theorem Sm.bool (i : Bool) : Sm (.bool i) 0 1 := ⟨by unfold PyData.canLay0; rfl, by unfold PyData.depth; omega, by unfold cntD; omega⟩
theorem Sm.none : Sm .none 0 1 := ⟨by unfold PyData.canLay0; rfl, by unfold PyData.depth; omega, by unfold cntD; omega⟩
theorem Sm.ints (ns : List Int) : SmA (ns.map PyData.int) 0 ns.length := ⟨lay_ints ns, by rw [depth_ints]; omega, by rw [cnt_ints]; omega⟩
/-- the facts that the comparison asks -/
theorem Sm.use {d : PyData} {n c m : Nat} (h : Sm d n c) (hn : n < m) (hc : c ≤ 1152921504606846976) {R : Prop} (q : R) : d.canLay0 = true ∧ d.depth < m ∧ cntD d ≤ 1152921504606846976 ∧ R :=
  ⟨h.1, Nat.lt_of_le_of_lt h.2.1 hn, Nat.le_trans h.2.2 hc, q⟩
theorem Sm.sh {d : PyData} {n c : Nat} (h : Sm d n c) (hn : n ≤ 60) : SeqAt.shaped d = true := by
  unfold SeqAt.shaped
  rw [h.1, Bool.true_and, decide_eq_true]
  exact Nat.le_trans h.2.1 (Nat.le_trans hn (by decide))
theorem dp_bls {K : PySem.W.Frag} {H : Hp} : ∀ bs : List Bool, DpAll K H (bs.map V.bl) (bs.map PyData.bool)
  | [] => .nil
  | b :: bs => .cons (.bl b) (dp_bls bs)
theorem Sm.bools : ∀ bs : List Bool, SmA (bs.map PyData.bool) 0 bs.length
  | [] => Sm.nil
  | b :: bs => by
    have h := Sm.cons (Sm.bool b) (Sm.bools bs)
    obtain ⟨a, b, c⟩ := h
    exact ⟨a, Nat.le_trans b (by omega), Nat.le_trans c (by rw [List.length_cons]; omega)⟩
/-- the months of a year -/
def yL (y : Int) : List Int := (List.range 12).map fun (i : Nat) => mlen y (1 + (i : Int))
theorem yL_eq (y : Int) : yL y = [31, 28 + if leap y = true then 1 else 0, 31, 30, 31, 30, 31, 31, 30, 31, 30, 31] := by
  unfold yL
  simp only [List.range, List.range.loop, List.map_cons, List.map_nil]
  unfold mlen
  cases leap y <;> rfl
theorem yL_sum (y : Int) : (yL y).sum = 365 + if leap y = true then 1 else 0 := by
  rw [yL_eq]
  cases leap y <;> rfl
theorem yL_cyc (y k : Int) : yL (y + 400 * k) = yL y := by
  rw [yL_eq, yL_eq, leap_cyc]
theorem mlen_back (y m : Int) : mlen (y - 400) m = mlen y m := by
  have h : leap (y - 400) = leap y := by
    rw [show y - 400 = y + 400 * (-1) by omega, leap_cyc]
  unfold mlen
  rw [h]
def ySum (y : Int) (n : Nat) : Int := ((List.range n).map fun (i : Nat) => (yL (y + (i : Int))).sum).sum
theorem ySum_succ (y : Int) (n : Nat) : ySum y (n + 1) = ySum y n + (yL (y + (n : Int))).sum := by
  unfold ySum
  rw [List.range_succ, List.map_append, List.sum_append]
  simp
theorem ySum_step (y : Int) : ∀ n : Nat, ySum (y + 1) n = ySum y n + (yL (y + (n : Int))).sum - (yL y).sum
  | 0 => by
    unfold ySum
    simp
  | n + 1 => by
    rw [ySum_succ, ySum_succ, ySum_step y n, show y + 1 + (n : Int) = y + ((n + 1 : Nat) : Int) by omega]
    omega
theorem ySum_nat : ∀ n : Nat, ySum (n : Int) 400 = ySum 0 400
  | 0 => rfl
  | n + 1 => by
    rw [show ((n + 1 : Nat) : Int) = (n : Int) + 1 by omega, ySum_step, ySum_nat n, show (n : Int) + ((400 : Nat) : Int) = (n : Int) + 400 * 1 by omega, yL_cyc]
    omega
theorem ySum_cyc (y k : Int) (n : Nat) : ySum (y + 400 * k) n = ySum y n := by
  unfold ySum
  congr 1
  refine List.map_congr_left fun i _ => ?_
  rw [show y + 400 * k + (i : Int) = y + (i : Int) + 400 * k by omega, yL_cyc]
theorem ySum_0 : ySum 0 400 = 146097 := by decide +kernel
theorem ySum_all (y : Int) : ySum y 400 = 146097 := by
  have h := ySum_cyc (y % 400) (y / 400) 400
  rw [show y % 400 + 400 * (y / 400) = y by omega] at h
  rw [h, show y % 400 = ((y % 400).toNat : Int) by omega, ySum_nat, ySum_0]
end Mc
/-! repr of data, in the law's own frame (there no repr is under way); the law's end for such a law -/
namespace Mc
open PySem PySem.Spec PyProof.Rows L2
/-- data that have a text of n characters at most -/
def Tx (d : PyData) (n : Nat) : Prop := d.showable = true ∧ d.hasDict = false ∧ d.shown.length ≤ n
def TxA (ds : List PyData) (n : Nat) : Prop := PyData.showableAll ds = true ∧ PyData.hasDictAll ds = false ∧ piled (PyData.shownAll ds) ≤ n
theorem TxA.nil : TxA [] 0 := ⟨rfl, rfl, Nat.le_refl _⟩
theorem TxA.cons {d : PyData} {ds : List PyData} {n m : Nat} (h : Tx d n) (h' : TxA ds m) : TxA (d :: ds) (n + 2 + m) := by
  obtain ⟨a, b, c⟩ := h
  obtain ⟨a', b', c'⟩ := h'
  refine ⟨?_, ?_, ?_⟩
  · unfold PyData.showableAll
    rw [a, a']
    rfl
  · unfold PyData.hasDictAll
    rw [b, b']
    rfl
  · unfold PyData.shownAll
    rw [piled_cons]
    omega
theorem textFrom_le : ∀ (ts : List Str) (k : Nat) (acc : Str), (textFrom k acc ts).length ≤ acc.length + piled ts
  | [], k, acc => Nat.le_add_right _ _
  | t :: ts, k, acc => by
    have h := textFrom_le ts (k + 1) (acc ++ (if k > 0 then ", " else "" : String) ++ t)
    rw [piled_cons]
    unfold textFrom
    refine Nat.le_trans h ?_
    rw [PySem.Str.length_append, PySem.Str.length_append]
    have e : (Str.ofString (if k > 0 then ", " else "" : String)).length ≤ 2 := by split <;> decide
    omega
theorem Tx.list {ds : List PyData} {n : Nat} (h : TxA ds n) : Tx (.list ds) (n + 2) := by
  obtain ⟨a, b, c⟩ := h
  refine ⟨?_, ?_, ?_⟩
  · unfold PyData.showable
    exact a
  · unfold PyData.hasDict
    exact b
  · unfold PyData.shown listText
    rw [PySem.Str.length_append]
    have h := textFrom_le (PyData.shownAll ds) 0 "["
    have e1 : (Str.ofString "[").length = 1 := rfl
    have e2 : (Str.ofString "]").length = 1 := rfl
    omega
theorem Tx.tuple {ds : List PyData} {n : Nat} (h : TxA ds n) : Tx (.tuple ds) (n + 3) := by
  obtain ⟨a, b, c⟩ := h
  refine ⟨?_, ?_, ?_⟩
  · unfold PyData.showable
    exact a
  · unfold PyData.hasDict
    exact b
  · unfold PyData.shown tupleText
    rw [PySem.Str.length_append, PySem.Str.length_append]
    have e1 : (Str.ofString "(").length = 1 := rfl
    have e2 : (Str.ofString (if (PyData.shownAll ds).length == 1 then ",)" else ")" : String)).length ≤ 2 := by split <;> decide
    have e3 : (Str.join ", " (PyData.shownAll ds)).length ≤ piled (PyData.shownAll ds) := by
      cases q : PyData.shownAll ds with
      | nil => decide
      | cons y ys =>
        have z := join_length_add (y :: ys) (by simp)
        omega
    omega
theorem Tx.int {i : Int} {b : Nat} (h0 : 0 < b) (h1 : b ≤ 1900) (h : i.natAbs < 2 ^ b) : Tx (.int i) (b + 1) := by
  have l : i.natAbs.log2 < b := PySem.Flt.log2_lt_of h0 h
  refine ⟨?_, rfl, ?_⟩
  · unfold PyData.showable
    exact decide_eq_true (by omega)
  · unfold PyData.shown
    rw [PySem.ofString_length]
    exact int_text_length_le h0 l
theorem Tx.ints {b : Nat} (h0 : 0 < b) (h1 : b ≤ 1900) : ∀ ns : List Int, (∀ i ∈ ns, i.natAbs < 2 ^ b) → TxA (ns.map PyData.int) ((b + 3) * ns.length)
  | [], _ => TxA.nil
  | i :: ns, h => by
    have z := TxA.cons (Tx.int h0 h1 (h i (List.mem_cons_self ..))) (Tx.ints h0 h1 ns fun j hj => h j (List.mem_cons_of_mem _ hj))
    obtain ⟨a, b', c⟩ := z
    refine ⟨a, b', Nat.le_trans c ?_⟩
    rw [List.length_cons, Nat.mul_succ]
    omega
theorem Tx.mono {d : PyData} {n m : Nat} (h : Tx d n) (l : n ≤ m) : Tx d m := ⟨h.1, h.2.1, Nat.le_trans h.2.2 l⟩
theorem TxA.mono {d : List PyData} {n m : Nat} (h : TxA d n) (l : n ≤ m) : TxA d m := ⟨h.1, h.2.1, Nat.le_trans h.2.2 l⟩
/-- repr(a), a a list or tuple of data -/
def rRepr (K : PySem.W.Frag) : List V → Hp → VK → Prop := fun xs H Q => ∃ (a : Addr) (d : PyData) (n : Nat), xs = [.ref a] ∧ Dp K H (.ref a) d ∧ Tx d n ∧ n ≤ 10000000 ∧ d.depth ≤ 60 ∧ Q (.str d.shown) H
theorem call_reprD {X : Cx} {k : Nat} (hg : X.A.guards = some []) (hr : Room k X.A) : CallR X (.builtin "repr") (rRepr X.K) := by
  intro pins s σ H xs us Q I r h
  obtain ⟨a, d, n, rfl, hd, ht, hn, hp, q⟩ := h
  cases r with
  | cons r1 r2 =>
    cases r2
    cases r1
    obtain ⟨as, hR⟩ := Dp.reads I d (.ref a) (.ref a) hd rfl
    refine repr_of_reads' hR ht.1 (PyData.noDict_hsm ht.2.1) hg (by have := hr.un; omega) (fun _ _ e => e) (fun h' u tk hk => ⟨.str d.shown, H, I.kept hk, ⟨_, rfl⟩, q⟩) (Nat.le_trans ht.2.2 (Nat.le_trans hn (by decide)))
/-- the law's own call, from the top -/
structure TopOk (P : Program) (w : World) (K : PySem.W.Frag) (mg : Str → Option Value) (base : Heap) (CX : CXT) (f : Addr) (fd : FuncData) (x : Str) (sp : Sp) : Prop where
  run : ∀ (s : Shared) (H : Hp) (u : Value) (v : V) (Q : VK) (E : XK), Env0 P w K mg base callerA [] s H → BindsTo s fd ⟨[u], []⟩ [(x, u)] → RelV v u → sp [v] H Q E →
    codeAny (model P w) callerA (.call (.ref f) ⟨[u], []⟩) (CR CX [] P w H s Q E) s
theorem top_ok {P : Program} {w : World} {K : PySem.W.Frag} {mg : Str → Option Value} {base : Heap} {y qual : Str} {params : Arguments} {body : List Stmt} {scope : Scope} {dvs : List V} {kws : List (Str × V)} {f : Addr} {fd : FuncData}
    {CX : CXT} {N : List Str} {x : Str} {k : Nat} {sp : Sp} (F : FunD K y qual params body scope dvs kws f fd) (S : FnScope N [x] scope) (hr : Room (k + 1) callerA)
    (hbody : ∀ (cdv : Value) (s : Shared) (H : Hp) (v : V) (Q : VK) (E : XK), Room k (callerA.deeper (envOfC qual scope s.heap.objs.size f cdv)) → sp [v] H Q E →
      ∃ t, PSs (cxOf CX P w K mg base N qual scope f cdv callerA [] s H E) body t ∧ t { nx := fun _ H' => Q .non H', rt := Q } (start N [v]) H) : TopOk P w K mg base CX f fd x sp := by
  obtain ⟨_, _, _, _, _, _, _, cdv, _, _, rfl, lk, hcd, _, _⟩ := F.ex
  refine ⟨fun s H u v Q E e0 hb r hsp => ?_⟩
  have lim : s.heap.NoLimit := e0.mod.nolimit.keeps fun b o e => (e0.bs b o e).1
  have KX : K.In s.heap := e0.mod.kin.keeps fun b o e => (e0.bs b o e).1
  have hk : ∀ z ∈ [x].zip [u], scope.names.lookup z.1 = some .local ∨ (scope.names.lookup z.1 = some .cell ∧ ((cellsFrom (s.heap.objs.size + 1) scope.names []).lookup z.1).isSome = true) := fun z hz =>
    (S.par z.1 (List.of_mem_zip (a := z.1) (b := z.2) hz).1).imp id fun q => ⟨q, PySem.W.cellsFrom_some _ _ _ (.inl q)⟩
  refine codeAny_call_function hr.depth (KX _ _ lk) rfl S.co S.gen rfl (PySem.W.codeRec_of KX hcd) (hb _ _ _ _ (wpAny_newFunctionEnv_cells S.kind hk fun env he s1 z => ?_))
  subst he
  refine ⟨lim.keeps z.toInCall.keep, codeAny_func ?_⟩
  obtain ⟨t, ht, hq⟩ := hbody cdv s H v Q E (hr.deeper _) hsp
  refine wpAny_mono (ht.run [] s1 (start N [v]) H _ (inv_start S hr.hd e0 rfl (.cons r .nil) z) hq) (fun fl s' hs => ?_) fun e s' hs => hs
  cases fl with
  | brk => exact hs.elim fun _ hs => hs.elim fun _ hs => hs.2.elim
  | cont => exact hs.elim fun _ hs => hs.elim fun _ hs => hs.2.elim
  | next =>
    obtain ⟨σ', H', J, q⟩ := hs
    exact ⟨V.non, H', J.os, J.bare, J.base, J.hok, rfl, q⟩
  | ret z =>
    obtain ⟨v', σ', H', J, rv, q⟩ := hs
    exact ⟨v', H', J.os, J.bare, J.base, J.hok, rv, q⟩
/-- the law's promise at the heap behind the top, its def run from there alone -/
theorem top_call {P : Program} {w : World} {K : PySem.W.Frag} {mg mb : Str → Option Value} {CX : CXT} {fa a : Addr} {fd : FuncData} {x : Str} {sp : Sp} {s₁ : Shared} {vs : List Value} {ns : List Int}
    (KX : K.In s₁.heap) (hns : s₁.heap.Ns mainGlobals mg) (hb : s₁.heap.Ns builtinsNs mb) (hbb : ∀ x : Str, x ≠ "__name__" → mb x = bootBuiltins x) (hlim : s₁.heap.NoLimit) (hg : s₁.gens = #[])
    (ha : s₁.heap.get? a = some { cls := .type "list", data := .seq vs.toArray }) (hi : IntsAre vs ns) (hl : ns.length ≤ sizeLine)
    (F : ∀ base : Heap, K.In base → base.Ns mainGlobals mg → TopOk P w K mg base CX fa fd x sp) (hbind : ∀ (s : Shared) (u : Value), BindsTo s fd ⟨[u], []⟩ [(x, u)])
    (hsp : ∀ H : Hp, SqL K H a (ns.map V.int) → sp [.ref a] H (fun v _ => v = .bl true) fun _ _ _ => False)
    (hCX : ∀ H e s', CX [] H s₁ (fun _ _ _ => False) e s' → False) :
    codeAny (model P w) callerA (.call (.ref fa) ⟨[.ref a], []⟩) (fun r s' => r = .ok (.ret (.bool true)) ∧ OldK s₁.heap s'.heap ∧ s'.os = s₁.os ∧ AllBare s'.gens) s₁ := by
  have go : ∀ H : Hp, (∀ b u, H b = some u → b = a ∧ K.lookup a = none ∧ ∃ o xs, u = .frz o (.lst xs)) → SqL K H a (ns.map V.int) → HOk P w H s₁.heap →
      codeAny (model P w) callerA (.call (.ref fa) ⟨[.ref a], []⟩) (fun r s' => r = .ok (.ret (.bool true)) ∧ OldK s₁.heap s'.heap ∧ s'.os = s₁.os ∧ AllBare s'.gens) s₁ := by
    intro H hH hS hok
    have emp : ∀ {b : Addr}, (∀ u, H b = some u → False) → H b = none := fun {b} n => by
      cases q : H b with
      | none => rfl
      | some u => exact (n u q).elim
    have kN : K.In (hidT s₁.heap H) := fun b o e => hidT_get (KX b o e) (emp fun u q => by
      obtain ⟨rfl, z, _⟩ := hH b u q
      rw [z] at e
      cases e)
    have nN : ∀ {b : Addr} {m : Str → Option Value}, s₁.heap.Ns b m → (hidT s₁.heap H).Ns b m := fun {b m} z => by
      obtain ⟨o, es, ep, e, d, r⟩ := z
      refine ⟨o, es, ep, hidT_get e (emp fun u q => ?_), d, r⟩
      obtain ⟨rfl, _⟩ := hH b u q
      rw [ha] at e
      cases e
      exact nomatch (show Data.seq vs.toArray _ = Data.dict es ep from d)
    have mN : Mod K mg (hidT s₁.heap H) := ⟨kN, nN hns, ⟨mb, nN hb, hbb⟩, hlim.elim fun mc z => ⟨mc, nN z.1, z.2⟩⟩
    have e0 : Env0 P w K mg (hidT s₁.heap H) callerA [] s₁ H :=
      { frames := rfl, mod := mN, bs := fun b o e => of_hidT e, bsz := Nat.le_of_eq (hidT_size _ _), funs := trivial, frf := fun b z => (nomatch (show b ∈ ([] : List Addr) from z)), hok := hok, bare := .of_eq hg }
    refine codeAny_mono ((F _ kN (nN hns)).run s₁ H (.ref a) (.ref a) _ _ e0 (hbind s₁ (.ref a)) rfl (hsp H hS)) fun r s' h => ?_
    match r, h with
    | .error e, h => exact (hCX H e s' h).elim
    | .ok .next, h => exact h.elim
    | .ok .brk, h => exact h.elim
    | .ok .cont, h => exact h.elim
    | .ok (.ret u), h =>
      obtain ⟨v, H', os, bare, un, hok', r', rfl⟩ := h
      obtain rfl : u = Value.bool true := r'
      refine ⟨rfl, OldK.of_keep fun b o e => ?_, os, bare⟩
      cases q : H b with
      | none => exact un.keep b o e q (fun z => nomatch (show b ∈ ([] : List Addr) from z)) (fun z => nomatch z)
      | some u =>
        obtain ⟨_, _, ob, xs, rfl⟩ := hH b u q
        have z1 := (hok b _ q).1
        have z2 := (hok' b _ (un.frzs b ob _ q)).1
        rw [e] at z1
        cases z1
        exact z2
  have rv := vals_ints hi
  have lenV := hi.length
  by_cases hk : ∃ o, K.lookup a = some o
  · obtain ⟨o, hk⟩ := hk
    have e := KX a o hk
    rw [ha] at e
    cases e
    exact go (fun _ => none) (fun b u z => (nomatch (show (none : Option HO) = some u from z))) (.inr ⟨_, vs.toArray, _, hk, rfl, rfl, rfl, by rw [List.size_toArray, lenV]; exact hl, by simpa using rv⟩) fun b u z => nomatch (show (none : Option HO) = some u from z)
  · have hk2 : K.lookup a = none := by
      cases q : K.lookup a with
      | none => rfl
      | some o => exact (hk ⟨o, q⟩).elim
    have one : ∀ b u, (if b = a then some (HO.frz { cls := .type "list", data := .seq vs.toArray } (.lst (ns.map V.int))) else none) = some u → b = a ∧ u = HO.frz { cls := .type "list", data := .seq vs.toArray } (.lst (ns.map V.int)) := fun b u z => by
      by_cases hb : b = a
      · rw [if_pos hb] at z
        exact ⟨hb, (Option.some.inj z).symm⟩
      · rw [if_neg hb] at z
        exact nomatch z
    refine go (fun b => if b = a then some (.frz { cls := .type "list", data := .seq vs.toArray } (.lst (ns.map V.int))) else none) (fun b u z => ?_) (.inl (.inr ⟨_, if_pos rfl⟩)) fun b u z => ?_
    · obtain ⟨z1, z2⟩ := one b u z
      exact ⟨z1, hk2, _, _, z2⟩
    · obtain ⟨rfl, rfl⟩ := one b u z
      exact ⟨ha, by rw [List.length_map]; exact hl, vs, _, rv, ha⟩
/-- a law's end over a head by facts, its def run from the top alone -/
theorem walk_top {l : PySem.W.OpenLaw} {n : Nat} {q : Program} {loose : List Str} {XP : (Str → Option Value) → Heap → Prop} {YP : World → Heap → Prop} {d : DefRec} {CX : CXT} {x : Str}
    (hn : l.most = some n) (hn2 : n ≤ sizeLine) (hdf : d.params.defaults = [])
    (F : ∀ (w : World) (mg : Str → Option Value) (fa : Addr) (h : Heap), YP w h → h.Ns mainGlobals mg → mg d.name = some (.ref fa) →
      ∃ (K : PySem.W.Frag) (fd : FuncData) (sp : Sp), K.In h ∧ (∀ (s : Shared) (u : Value), BindsTo s fd ⟨[u], []⟩ [(x, u)]) ∧
        (∀ (H : Hp) (a : Addr) (ns : List Int), ns.length ≤ n → SqL K H a (ns.map V.int) → sp [.ref a] H (fun v _ => v = .bl true) fun _ _ _ => False) ∧
        ∀ base : Heap, K.In base → base.Ns mainGlobals mg → TopOk l.prog w K mg base CX fa fd x sp)
    (hCX : ∀ (H : Hp) (s : Shared) (e : Value) (s' : Shared), CX [] H s (fun _ _ _ => False) e s' → False) :
    PySem.W.WalkO q loose XP YP l.row.toRowW d [] (fun f vs => PySem.call f vs) := by
  refine Att.attach_call hn hdf fun w s₀ s₁ mg mb fa o pm cd doc a vs ns G Y ho hd hcd hmg hobj hints hlen hg => ?_
  obtain ⟨K, fd, sp, KX, hb, hsp, hF⟩ := F w mg fa _ Y G.T.g hmg
  exact top_call KX G.T.g G.T.b G.T.builtins G.T.nolimit hg hobj hints (Nat.le_trans hlen hn2) hF hb (fun H hS => hsp H a ns hlen hS) fun H e s' => hCX H s₁ e s'
end Mc
/-! lists of dates; more small rules -/
namespace Mc
open PySem PySem.Spec PyProof.Rows L2
/-- tuples stay -/
def TupK (H H' : Hp) : Prop := ∀ p xs, H p = some (.tup xs) → H' p = some (.tup xs)
section
variable {H H1 H2 : Hp} {S D p : Addr} {o : HO} {xs : List V}
theorem TupK.refl (H : Hp) : TupK H H := fun _ _ h => h
theorem TupK.trans (a : TupK H H1) (b : TupK H1 H2) : TupK H H2 := fun p xs h => b p xs (a p xs h)
theorem TupK.same (a : Same H H1) : TupK H H1 := fun p xs h => a p _ h
theorem TupK.new (h : H p = none) : TupK H (upd H p o) := TupK.same (Same.new h)
theorem TupK.upd (h : H p = some (.lst xs)) : TupK H (upd H p o) := fun q ys e => by
  rw [upd_ne (fun z => by rw [z, h] at e; cases e)]
  exact e
theorem TupK.frm2 {xs ys : List V} (hS : H S = some (.lst xs)) (hD : H D = some (.lst ys)) (f : Frm2 S D H H1) : TupK H H1 := fun q zs e =>
  f q _ (fun z => by rw [z, hS] at e; cases e) (fun z => by rw [z, hD] at e; cases e) e
theorem ne_tl {a b : Addr} {xs ys : List V} (h : H a = some (.tup xs)) (h2 : H b = some (.lst ys)) : a ≠ b := fun z => by rw [z, h2] at h; cases h
/-- a list of dates -/
inductive DL (H : Hp) : List V → List Dt → Prop
  | nil : DL H [] []
  | cons {p : Addr} {s : Dt} {rs : List V} {ss : List Dt} : H p = some (.tup (dT s)) → DL H rs ss → DL H (.ref p :: rs) (s :: ss)
theorem DL.imp {rs : List V} {ss : List Dt} (k : TupK H H1) (h : DL H rs ss) : DL H1 rs ss := by
  induction h with
  | nil => exact .nil
  | cons h _ ih => exact .cons (k _ _ h) ih
theorem DL.snoc {rs : List V} {ss : List Dt} {s : Dt} (h : DL H rs ss) (hp : H p = some (.tup (dT s))) : DL H (rs ++ [.ref p]) (ss ++ [s]) := by
  induction h with
  | nil => exact .cons hp .nil
  | cons h _ ih => exact .cons h ih
theorem DL.len {rs : List V} {ss : List Dt} (h : DL H rs ss) : rs.length = ss.length := by
  induction h with
  | nil => rfl
  | cons _ _ ih => rw [List.length_cons, List.length_cons, ih]
theorem DL.dp {K : PySem.W.Frag} {rs : List V} {ss : List Dt} (h : DL H rs ss) : DpAll K H rs (ss.map dD) := by
  induction h with
  | nil => exact .nil
  | cons h _ ih => exact .cons (dp_date h) ih
end
theorem Sm.date (s : Dt) : Sm (dD s) 1 4 := Sm.tuple (Sm.ints [_, _, _])
theorem Sm.mono {d : PyData} {n m c e : Nat} (h : Sm d n c) (l : n ≤ m) (l2 : c ≤ e) : Sm d m e := ⟨h.1, Nat.le_trans h.2.1 l, Nat.le_trans h.2.2 l2⟩
theorem SmA.mono {d : List PyData} {n m c e : Nat} (h : SmA d n c) (l : n ≤ m) (l2 : c ≤ e) : SmA d m e := ⟨h.1, Nat.le_trans h.2.1 l, Nat.le_trans h.2.2 l2⟩
theorem Sm.dates : ∀ ss : List Dt, SmA (ss.map dD) 1 (4 * ss.length)
  | [] => SmA.mono Sm.nil (by decide) (by decide)
  | s :: ss => SmA.mono (Sm.cons (Sm.date s) (Sm.dates ss)) (by decide) (by rw [List.length_cons]; omega)
theorem atI_last {xs : List V} {v : V} : atI (xs ++ [v]) (-1) = some v := by
  unfold atI
  simp only [ixN, List.length_append, List.length_singleton]
  have e : (-1 + ((xs.length + 1 : Nat) : Int)).toNat = xs.length := by omega
  simp [e]
  rw [if_pos (by omega), show (-1 + ((xs.length : Int) + 1)).toNat = xs.length by omega]
  simp
section
variable {σ : L2.St} {H : Hp} {Q : VK} {i : Int} {nx : L2.St → Hp → Prop} {rt : VK} {bk ct : L2.St → Hp → Prop}
theorem st_par3 {u v w : V} {R : V → V → V → Prop} (h : R u v w) : ∃ x y z, [u, v, w] = [x, y, z] ∧ R x y z := ⟨u, v, w, rfl, h⟩
theorem st_par3F {n m l : Nat} {ta : TA} {f : V → V → V → L2.St} (e : ∀ u v w, ((List.set σ n (some u)).set m (some v)).set l (some w) = f u v w) (h : ta σ H fun vs H1 => ∃ u v w, vs = [u, v, w] ∧ nx (f u v w) H1) :
    tPar3 n m l ta ⟨nx, rt, bk, ct⟩ σ H := by
  have e2 : (fun u v w => ((List.set σ n (some u)).set m (some v)).set l (some w)) = f := funext fun u => funext fun v => funext (e u v)
  subst e2
  exact h
/-- xs.insert(i, y) -/
def rInsert : V → List V → Hp → VK → Prop := fun x vs H Q => ∃ (l : Addr) (xs : List V) (i : Int) (y : V), x = .ref l ∧ vs = [.int i, y] ∧ H l = some (.lst xs) ∧ xs.length < sizeLine ∧ 0 ≤ i ∧ i < 2 ^ 63 ∧
    Q .non (upd H l (.lst (xs.take i.toNat ++ [y] ++ xs.drop i.toNat)))
theorem mt_insertK {X : Cx} : MtR X "list.insert" rInsert := mt_insert
theorem st_insert {p : Addr} {xs : List V} {y : V} (h : H p = some (.lst xs)) (hl : xs.length < 100000) (h0 : 0 ≤ i) (h1 : i < 2 ^ 63) (q : Q .non (upd H p (.lst (xs.take i.toNat ++ [y] ++ xs.drop i.toNat)))) : rInsert (.ref p) [.int i, y] H Q :=
  ⟨p, xs, i, y, rfl, rfl, h, len_lt hl, h0, h1, q⟩
theorem st_repr {K : PySem.W.Frag} {a : Addr} {d : PyData} {n : Nat} (h : Dp K H (.ref a) d) (ht : Tx d n) (hn : n ≤ 10000000) (hp : d.depth ≤ 60) (q : Q (.str d.shown) H) : rRepr K [.ref a] H Q := ⟨a, d, n, rfl, h, ht, hn, hp, q⟩
end
theorem nat_ab {i : Int} {b : Nat} (h0 : -((2 ^ b : Nat) : Int) < i) (h : i < (2 ^ b : Nat)) : i.natAbs < 2 ^ b := by omega
/-- the text of a date -/
theorem Tx.date {s : Dt} {b : Nat} (h0 : 0 < b) (h1 : b ≤ 1900) (h : s.1.natAbs < 2 ^ b) (hs : okS s) (h5 : 5 ≤ b) : Tx (dD s) (3 * b + 20) := by
  obtain ⟨h2, h3⟩ := hs
  have := lenN_bd s.1
  have p5 : (2 : Nat) ^ 5 ≤ 2 ^ b := Nat.pow_le_pow_right (by decide) h5
  refine Tx.mono (Tx.tuple (TxA.cons (Tx.int h0 h1 (i := s.1 / 12) (by omega)) (TxA.cons (Tx.int h0 h1 (i := s.1 % 12 + 1) (by omega)) (TxA.cons (Tx.int h0 h1 (i := s.2) (by omega)) TxA.nil)))) (by omega)
end Mc
namespace Mc
open PySem PySem.Spec PyProof.Rows L2
theorem cutV_take {xs : List V} {c : Int} (h0 : 0 ≤ c) (h1 : c ≤ xs.length) : cutV xs none (some c) = xs.take c.toNat := by
  obtain ⟨k, rfl⟩ := Int.eq_ofNat_of_zero_le h0
  unfold cutV
  rw [HT.sIx_none, HT.sIx_nat, Nat.min_eq_left (by omega), List.drop_zero]
  rfl
theorem cutV_drop {xs : List V} {c : Int} (h0 : 0 ≤ c) (h1 : c ≤ xs.length) : cutV xs (some c) none = xs.drop c.toNat := by
  obtain ⟨k, rfl⟩ := Int.eq_ofNat_of_zero_le h0
  unfold cutV
  rw [HT.sIx_none, HT.sIx_nat, Nat.min_eq_left (by omega), List.take_of_length_le (by rw [List.length_drop]; exact Nat.le_refl _)]
  rfl
section
variable {K : PySem.W.Frag} {H : Hp} {Q : VK} {p : Addr} {ns : List Int}
/-- ns[:c], ns[c:] -/
theorem st_slTo {c : Int} (h : SqL K H p (ns.map V.int)) (h0 : 0 ≤ c) (h1 : c ≤ ns.length) (q : ∀ u, H u = none → Q (.ref u) (upd H u (.lst ((ns.take c.toNat).map V.int)))) : rSlL K (.ref p) none (some c) H Q := by
  refine st_slL h ?_
  rw [cutV_take h0 (by rw [List.length_map]; exact h1), ← List.map_take]
  exact q
theorem st_slFrom {c : Int} (h : SqL K H p (ns.map V.int)) (h0 : 0 ≤ c) (h1 : c ≤ ns.length) (q : ∀ u, H u = none → Q (.ref u) (upd H u (.lst ((ns.drop c.toNat).map V.int)))) : rSlL K (.ref p) (some c) none H Q := by
  refine st_slL h ?_
  rw [cutV_drop h0 (by rw [List.length_map]; exact h1), ← List.map_drop]
  exact q
/-- ns[-1], ns[-2] -/
theorem st_ixN2 (h : SqL K H p (ns.map V.int)) (h1 : 2 ≤ ns.length) (q : ∀ k, k ∈ ns → Q (.int k) H) : rIxL K (.ref p) (.int (-2)) H Q := by
  have e : atI (ns.map V.int) (-2) = some (.int (ns[ns.length - 2])) := by
    unfold atI ixN
    rw [if_neg (by decide), if_pos (by rw [List.length_map]; omega)]
    show (ns.map V.int)[(-2 + ((ns.map V.int).length : Int)).toNat]? = _
    rw [show (-2 + ((ns.map V.int).length : Int)).toNat = ns.length - 2 by rw [List.length_map]; omega, List.getElem?_map, List.getElem?_eq_getElem (by omega)]
    rfl
  exact st_ixL h e (q _ (List.getElem_mem _))
theorem st_ixN1 (h : SqL K H p (ns.map V.int)) (h1 : 1 ≤ ns.length) (q : ∀ k, ns.getLast? = some k → Q (.int k) H) : rIxL K (.ref p) (.int (-1)) H Q := by
  have e : atI (ns.map V.int) (-1) = some (.int (ns[ns.length - 1])) := by
    unfold atI ixN
    rw [if_neg (by decide), if_pos (by rw [List.length_map]; omega)]
    show (ns.map V.int)[(-1 + ((ns.map V.int).length : Int)).toNat]? = _
    rw [show (-1 + ((ns.map V.int).length : Int)).toNat = ns.length - 1 by rw [List.length_map]; omega, List.getElem?_map, List.getElem?_eq_getElem (by omega)]
    rfl
  exact st_ixL h e (q _ (by rw [List.getLast?_eq_getElem?, List.getElem?_eq_getElem (by omega)]))
/-- ns[-1] = k -/
theorem st_setN {R : Hp → Prop} {k : Int} (h : H p = some (.lst (ns.map V.int))) (h1 : 1 ≤ ns.length) (q : R (upd H p (.lst ((ns.set (ns.length - 1) k).map V.int)))) : rSetL (.ref p) (.int (-1)) (.int k) H R := by
  refine st_setL (n := ns.length - 1) h ?_ ?_
  · unfold ixN
    rw [if_neg (by decide), if_pos (by rw [List.length_map]; omega)]
    exact congrArg some (by rw [List.length_map]; omega)
  · rw [← List.map_set]
    exact q
theorem st_catI {a b : Addr} {ns ms : List Int} (h : H a = some (.lst (ns.map V.int))) (hb : H b = some (.lst (ms.map V.int))) (hl : ns.length + ms.length < 100000) (q : ∀ c, H c = none → Q (.ref c) (upd H c (.lst ((ns ++ ms).map V.int)))) : rCat (.ref a) (.ref b) H Q := by
  refine st_cat h hb (by rw [List.length_map, List.length_map]; exact hl) ?_
  rw [← List.map_append]
  exact q
end
theorem mvL_append (s : Dt) (xs ys : List Int) : mvL s (xs ++ ys) = mvL (mvL s xs) ys := List.foldl_append ..
def upY (s : Dt) : Dt := (s.1 + 4800, s.2)
theorem mvS_up (s : Dt) (k : Int) : mvS (upY s) k = upY (mvS s k) := by
  unfold mvS upY
  show (s.1 + 4800 + k, min s.2 (lenN (s.1 + 4800 + k))) = (s.1 + k + 4800, min s.2 (lenN (s.1 + k)))
  rw [show s.1 + 4800 + k = s.1 + k + 4800 by omega, show s.1 + k + 4800 = s.1 + k + 4800 * 1 by omega, lenN_cyc]
theorem mvL_up : ∀ (ns : List Int) (s : Dt), mvL (upY s) ns = upY (mvL s ns)
  | [], s => rfl
  | n :: ns, s => by
    show mvL (mvS (upY s) n) ns = _
    rw [mvS_up, mvL_up ns]
    rfl
theorem mvS_far (s : Dt) (k : Int) : mvS s (k + 4800) = upY (mvS s k) := by
  unfold mvS upY
  show (s.1 + (k + 4800), min s.2 (lenN (s.1 + (k + 4800)))) = (s.1 + k + 4800, min s.2 (lenN (s.1 + k)))
  rw [show s.1 + (k + 4800) = s.1 + k + 4800 * 1 by omega, lenN_cyc]
  rfl
theorem mvL_far (s : Dt) (k : Int) (ns : List Int) : mvL s ((k + 4800) :: ns) = upY (mvL s (k :: ns)) := by
  show mvL (mvS s (k + 4800)) ns = upY (mvL (mvS s k) ns)
  rw [mvS_far, mvL_up]
theorem dT_up (s : Dt) : dT (upY s) = [.int (s.1 / 12 + 400), .int (s.1 % 12 + 1), .int s.2] := by
  unfold dT upY
  show [V.int ((s.1 + 4800) / 12), .int ((s.1 + 4800) % 12 + 1), .int s.2] = _
  rw [show (s.1 + 4800) / 12 = s.1 / 12 + 400 by omega, show (s.1 + 4800) % 12 = s.1 % 12 by omega]
end Mc
/-! texts of numbers, dates and steps -/
namespace Mc
open PySem PySem.Spec PyProof.Rows L2
def iT (i : Int) : Str := Str.ofString (toString i)
theorem iT_len {i : Int} (h : i.natAbs < 2 ^ 200) : (iT i).length ≤ 201 := by
  unfold iT
  rw [PySem.ofString_length]
  exact int_text_length_le (by decide) (PySem.Flt.log2_lt_of (by decide) h)
theorem iT_log {i : Int} (h : i.natAbs < 2 ^ 200) : i.natAbs.log2 < 1920 := Nat.lt_of_lt_of_le (PySem.Flt.log2_lt_of (k := 200) (by decide) h) (by decide)
/-- a step's text, a list's, a date's -/
def stT (i : Int) : Str := if 0 < i then ("+" : Str) ++ iT i else iT i
def rowT (ns : List Int) : Str := if ns.isEmpty = true then ("none" : Str) else Txt.join " " (ns.map stT)
def dtT (s : Dt) : Str := iT (s.1 / 12) ++ ("/" : Str) ++ iT (s.1 % 12 + 1) ++ ("/" : Str) ++ iT s.2
theorem stT_len {i : Int} (h : i.natAbs < 2 ^ 200) : (stT i).length ≤ 202 := by
  have e := iT_len h
  have e1 : (Str.ofString "+").length = 1 := rfl
  unfold stT
  split
  · rw [PySem.Str.length_append]
    omega
  · omega
theorem row_fits : ∀ {ns : List Int}, (∀ k ∈ ns, k.natAbs < 2 ^ 200) → ((ns.map stT).map (·.length)).sum ≤ 202 * ns.length
  | [], _ => by simp
  | n :: ns, h => by
    have a := stT_len (h n (List.mem_cons_self ..))
    have b := row_fits (ns := ns) fun k hk => h k (List.mem_cons_of_mem _ hk)
    rw [List.map_cons, List.map_cons, List.sum_cons, List.length_cons]
    omega
theorem row_ok {ns : List Int} (h : ∀ k ∈ ns, k.natAbs < 2 ^ 200) (hl : ns.length ≤ 5000) : ((ns.map stT).map (·.length)).sum + (ns.map stT).length * (Str.ofString " ").length ≤ 16777216 := by
  have a := row_fits h
  rw [List.length_map, show (Str.ofString " ").length = 1 from rfl]
  omega
section
variable {X : Cx} {σ : L2.St} {H : Hp} {Q : VK} {te to : TE} {i : Int} {K : PySem.W.Frag}
def rFmt : V → Hp → VK → Prop := fun x H1 Q => (∃ y : Str, x = .str y ∧ y.length ≤ sizeLine ∧ Q (.str y) H1) ∨ ∃ i : Int, x = .int i ∧ i.natAbs.log2 < 1920 ∧ Q (.str (toString i)) H1
theorem st_fmt (h : te σ H fun x H1 => rFmt x H1 Q) : tFmt te σ H Q := h
theorem st_fmtI (h : i.natAbs < 2 ^ 200) (q : Q (.str (iT i)) H) : rFmt (.int i) H Q := .inr ⟨i, rfl, iT_log h, q⟩
def rJs (ts : List TE) (acc : Str) (σ : L2.St) : V → Hp → (Str → Hp → Prop) → Prop := fun x H1 R => ∃ y : Str, x = .str y ∧ (acc ++ y).length ≤ sizeLine ∧ tJs ts (acc ++ y) σ H1 R
theorem st_js {t : TE} {ts : List TE} {acc : Str} {R : Str → Hp → Prop} (h : t σ H fun x H1 => rJs ts acc σ x H1 R) : tJs (t :: ts) acc σ H R := h
theorem st_jsE {acc : Str} {R : Str → Hp → Prop} (h : R acc H) : tJs [] acc σ H R := h
theorem st_jsS {ts : List TE} {acc y : Str} {R : Str → Hp → Prop} (hl : (acc ++ y).length ≤ 100000) (h : tJs ts (acc ++ y) σ H R) : rJs ts acc σ (.str y) H R := ⟨y, rfl, Nat.le_trans hl (by decide), h⟩
def tFst (ts : List TE) : TE := fun σ H Q => tJs ts Str.empty σ H fun out H1 => Q (.str out) H1
theorem pe_fst {v1 v2 : Expr} {rest : List Expr} {ts : List TE} {pos : Pos} (h : PJ X (v1 :: v2 :: rest) ts) : PE X (.JoinedStr (v1 :: v2 :: rest) pos) (tFst ts) := pe_joined h
theorem st_fst {ts : List TE} (h : tJs ts Str.empty σ H fun out H1 => Q (.str out) H1) : tFst ts σ H Q := h
/-- a + b, texts -/
def rAddS : V → V → Hp → VK → Prop := fun x y H Q => ∃ i j, x = .str i ∧ y = .str j ∧ i.length + j.length ≤ sizeLine ∧ Q (.str (i ++ j)) H
theorem op_addS : OpR X (binaryOp .Add) rAddS := op_add_str
theorem st_addS {a b : Str} (hl : a.length + b.length ≤ 100000) (q : Q (.str (a ++ b)) H) : rAddS (.str a) (.str b) H Q := ⟨a, b, rfl, rfl, Nat.le_trans hl (by decide), q⟩
/-- str(i) -/
def rStrI : List V → Hp → VK → Prop := fun xs H Q => ∃ i, xs = [.int i] ∧ i.natAbs.log2 < 1920 ∧ Q (.str (toString i)) H
theorem call_strI : CallR X (.type "str") rStrI := call_str_int
theorem st_strI (h : i.natAbs < 2 ^ 200) (q : Q (.str (iT i)) H) : rStrI [.int i] H Q := ⟨i, rfl, iT_log h, q⟩
/-- sep.join(xs) -/
def rJoin (K : PySem.W.Frag) : V → List V → Hp → VK → Prop := fun x xs H Q => ∃ a p, ∃ ys : List Str, x = .str a ∧ xs = [.ref p] ∧ (SqL K H p (ys.map V.str) ∨ SqT K H p (ys.map V.str)) ∧
  (ys.map (·.length)).sum + ys.length * a.length ≤ 16777216 ∧ Q (.str (Txt.join a ys)) H
def tJoinK (K : PySem.W.Frag) (to te : TE) : TE := tM1 (rJoin K) to te
theorem st_joinK (h : to σ H fun x H1 => (∃ a, x = .str a) ∧ te σ H1 fun y H2 => rJoin K x [y] H2 Q) : tJoinK K to te σ H Q := h
theorem st_strx {a : Str} {R : Prop} (h : R) : (∃ b, V.str a = .str b) ∧ R := ⟨⟨a, rfl⟩, h⟩
theorem st_join {a : Str} {p : Addr} {ys : List Str} (h : SqL K H p (ys.map V.str)) (hl : (ys.map (·.length)).sum + ys.length * a.length ≤ 16777216) (q : Q (.str (Txt.join a ys)) H) : rJoin K (.str a) [.ref p] H Q := ⟨a, p, ys, rfl, rfl, .inl h, hl, q⟩
theorem dp_strs : ∀ ss : List Str, DpAll K H (ss.map V.str) (ss.map PyData.str)
  | [] => .nil
  | b :: bs => .cons (.str b) (dp_strs bs)
end
/-- texts that lie: every sign is one -/
theorem so_lit (s : String) : PyData.strOk (Str.ofString s) = true := by
  unfold PyData.strOk
  rw [← Array.all_toList, signs_ofString, List.all_map]
  refine List.all_eq_true.mpr fun c _ => decide_eq_true ?_
  have h : c.toNat.isValidChar := c.valid
  rcases h with h | ⟨_, h⟩
  · exact Nat.lt_trans h (by decide)
  · exact h
theorem so_app {a b : Str} (ha : PyData.strOk a = true) (hb : PyData.strOk b = true) : PyData.strOk (a ++ b) = true := by
  unfold PyData.strOk at *
  rw [PySem.Str.cps_append, ← Array.all_toList, Array.toList_append, List.all_append, Array.all_toList, Array.all_toList, ha, hb]
  rfl
theorem so_join {y : Str} (hy : PyData.strOk y = true) : ∀ {ps : List Str}, (∀ p ∈ ps, PyData.strOk p = true) → PyData.strOk (Txt.join y ps) = true := by
  intro ps h
  rw [TL.join_eq]
  induction ps with
  | nil => exact (by decide +kernel : PyData.strOk Str.empty = true)
  | cons x r ih =>
    cases r with
    | nil => exact h x (List.mem_cons_self ..)
    | cons z r =>
      show PyData.strOk (x ++ y ++ Str.join y (z :: r)) = true
      exact so_app (so_app (h x (List.mem_cons_self ..)) hy) (ih fun p hp => h p (List.mem_cons_of_mem _ hp))
theorem so_int (i : Int) : PyData.strOk (iT i) = true := so_lit _
theorem so_st (i : Int) : PyData.strOk (stT i) = true := by
  unfold stT
  split
  · exact so_app (so_lit _) (so_int _)
  · exact so_int _
theorem so_row (ns : List Int) : PyData.strOk (rowT ns) = true := by
  unfold rowT
  split
  · exact so_lit _
  · refine so_join (so_lit _) fun p hp => ?_
    obtain ⟨k, _, rfl⟩ := List.mem_map.mp hp
    exact so_st k
theorem so_date (s : Dt) : PyData.strOk (dtT s) = true := so_app (so_app (so_app (so_app (so_int _) (so_lit _)) (so_int _)) (so_lit _)) (so_int _)
theorem Sm.str {i : Str} (h : PyData.strOk i = true) : Sm (.str i) 0 1 := ⟨by unfold PyData.canLay0; exact h, by unfold PyData.depth; omega, by unfold cntD; omega⟩
theorem Sm.strs : ∀ {bs : List Str}, (∀ b ∈ bs, PyData.strOk b = true) → SmA (bs.map PyData.str) 0 bs.length
  | [], _ => Sm.nil
  | b :: bs, h => SmA.mono (Sm.cons (Sm.str (h b (List.mem_cons_self ..))) (Sm.strs fun z hz => h z (List.mem_cons_of_mem _ hz))) (by omega) (by rw [List.length_cons]; omega)
/-- xs == [], texts -/
theorem st_eqNilS {K : PySem.W.Frag} {H : Hp} {Q : VK} {a b : Addr} {ss : List Str} (h : SqL K H a (ss.map V.str)) (hb : SqL K H b []) (ok : ∀ s ∈ ss, PyData.strOk s = true) (q : Q (.bl ss.isEmpty) H) : rEqD K (.ref a) (.ref b) H Q := by
  refine ⟨_, .list [], .lst h (dp_strs ss), .lst hb .nil, (Sm.list (Sm.strs ok)).sh (by decide), rfl, ?_⟩
  cases ss with
  | nil => exact q
  | cons n ns => exact q
theorem empty_lit (x : Str) : Str.ofString "" ++ x = x := by
  rw [show Str.ofString "" = Str.empty from by decide +kernel, PySem.Str.empty_append]
end Mc
/-! sets of ints that are made of lists; their order; sums of first steps -/
namespace Mc
open PySem PySem.Spec PyProof.Rows L2
/-- a set without members -/
def noSet (w : World) : Obj := { cls := .type "set", dict := none, data := .set #[] 0 (.fresh 0 0 (!w.params.followText "set-order")) }
theorem ints_get {its : Array Value} {ns : List Int} (h : IntsAre its.toList ns) (i : Nat) (v : Value) (hv : its[i]? = some v) : ∃ k t, ns[i]? = some k ∧ v = .int k t := by
  have hl := IntsAre.length h
  rw [Array.length_toList] at hl
  obtain ⟨hi, _⟩ := Array.getElem?_eq_some_iff.mp hv
  have hi2 : i < ns.length := by omega
  obtain ⟨t, e⟩ := IntsAre.int_at h i v (by rw [Array.getElem?_toList]; exact hv)
  refine ⟨ns[i], t, List.getElem?_eq_getElem hi2, ?_⟩
  rw [e, List.getD_eq_getElem?_getD, List.getElem?_eq_getElem hi2]
  rfl
section
variable {P : Program} {w : World} {A : Around} {E : Value → Shared → Prop} {s : Shared} {l S : Addr} {its : Array Value} {ns : List Int}
/-- set.__init__ fills S from a list -/
theorem setL_fill {R : Result → Shared → Prop} (hh : A.handled = none) (hS : s.heap.get? S = some (noSet w)) (hl : s.heap.IsList l its) (ne : l ≠ S) (hi : IntsAre its.toList ns) (hb : ns.length + 1 < scanBound)
    (q : ∀ h' tk c, SetR w h' S (fun j => decide (j ∈ ns)) c → (∀ b o, b ≠ S → s.heap.get? b = some o → h'.get? b = some o) → R (.ok (.ret .none)) { s with heap := h', toks := tk }) :
    codeAny (model P w) A (.call (.builtin "set.__init__") ⟨[.ref S, .ref l], []⟩) R s := by
  refine codeAny_call_builtin F.called_set.init.plain F.entry_set_init (check_set_init_1 ⟨_, hS, rfl⟩ ?_)
  have sz : its.size = ns.length := by
    have e := IntsAre.length hi
    rw [Array.length_toList] at e
    exact e
  have hl0 := hl
  obtain ⟨ol, h1, h2, nl, h3⟩ := hl
  obtain ⟨c0, d0, a0, s0⟩ := ol
  simp only at h2 h3
  subst h2
  subst h3
  have sub1 := F.sub_list_set
  have sub2 := F.sub_list_frozenset
  have nd : (Value.type "list" == Value.type "dict") = false := by decide
  unfold Builtin.«set.__init__» noKeywords Builtin.Frozenset.updateFrom
  generalize eP : pyIter = PI
  wp_walk
  subst eP
  refine wpAny_pyIter_list hl0 ?_
  refine wpAny_bind (wpAny_runValue ?_)
  have ltl : l < s.heap.objs.size := Heap.lt_size h1
  have ltS : S < s.heap.objs.size := Heap.lt_size hS
  have h3n : A.in1.in1.handled = none := by simp [hh]
  refine set_update_ints ((Walks.list h3n s.heap.objs.size l (Nat.ne_of_lt ltl) its).toS) S ?cm ns sz hb (ints_get hi) (its.size - 0) 0 _ (by omega) (Nat.zero_le _) ?ct ?cs ?cr
  case ct => exact ⟨⟨_, Heap.get?_push_size _ rfl, rfl, rfl⟩, hl0.push _⟩
  case cm =>
    intro z
    simp only [List.mem_cons, List.not_mem_nil, or_false] at z
    rcases z with z | z
    · exact absurd z (Nat.ne_of_lt ltS)
    · exact ne z.symm
  case cs => exact ⟨0, Nat.le_refl _, setR_new_at (Heap.get?_push_of_some _ hS)⟩
  case cr =>
    intro s' c hm _ hR
    obtain ⟨h', g2, d', tk', os'⟩ := s'
    obtain rfl : g2 = s.gens := hm.gens
    obtain rfl : d' = s.drawn := hm.drawn
    obtain rfl : os' = s.os := hm.os
    refine wpAny_pure ?_
    show wpAny _ _ (ret Value.none) _ _ _
    refine wpAny_pure (q h' tk' c hR fun b o nb e => hm.heap b o ?_ (Heap.get?_push_of_some _ e))
    simp only [List.mem_cons, List.not_mem_nil, or_false, not_or]
    exact ⟨nb, Nat.ne_of_lt (Heap.lt_size e)⟩
/-- set(l), l a list of ints -/
theorem setL_call {Q : Value → Shared → Prop} (hh : A.handled = none) (hl : s.heap.IsList l its) (hi : IntsAre its.toList ns) (hb : ns.length + 1 < scanBound)
    (q : ∀ h' tk c, SetR w h' s.heap.objs.size (fun j => decide (j ∈ ns)) c → (∀ b o, s.heap.get? b = some o → h'.get? b = some o) → Q (.ref s.heap.objs.size) { s with heap := h', toks := tk }) :
    wpAny (model P w) A (call (.type "set") [.ref l]) Q E s := by
  have own := F.called_set
  have ct := F.typeCall_set_1 (.ref l)
  obtain ⟨c1, tl, mro⟩ := own.mro
  have made := own.made
  have subs := own.sub
  have nt := own.notType
  have cc := own.canCreate
  refine wpAny_call (codeAny_of_tree ?_)
  show wpAny _ _ (callAny (.type "set") _) _ _ _
  refine wpAny_pure ⟨Code.quiet_builtin _ (by decide +kernel), codeAny_builtin F.entry_type_call ?_⟩
  rw [Around.under_plain (weight_type_call_type "set" [.ref l] []) rfl]
  repeat (any_goals (first | assumption | wp_step))
  refine codeAny_mono (code_set_led1 (.ref l) (E := E) (Q₁ := fun v s1 => v = .ref s.heap.objs.size ∧ s1 = { s with heap := s.heap.push (noSet w) }) ⟨rfl, rfl⟩) fun r s1 hr => ?_
  match r, hr with
  | .error e, hr => exact hr
  | .ok .next, hr => exact hr.elim
  | .ok .brk, hr => exact hr.elim
  | .ok .cont, hr => exact hr.elim
  | .ok (.ret v), ⟨ev, es⟩ =>
    subst ev
    subst es
    have at_ : (s.heap.push (noSet w)).get? s.heap.objs.size = some (noSet w) := Heap.get?_push_size _ rfl
    have ty : Shared.TypeIs { s with heap := s.heap.push (noSet w) } (.ref s.heap.objs.size) "set" := ⟨_, at_, rfl⟩
    have il := own.init.lookup
    have ib := own.init.bind (.ref s.heap.objs.size)
    have lt : l < s.heap.objs.size := by
      obtain ⟨o, ho, _⟩ := hl
      exact Heap.lt_size ho
    repeat (any_goals (first | assumption | wp_step))
    refine codeAny_mono (setL_fill (R := wants (fun v s2 => v = .none ∧ ∃ h' tk, s2 = { s with heap := h', toks := tk } ∧ ∃ c, SetR w h' s.heap.objs.size (fun j => decide (j ∈ ns)) c ∧ ∀ b o, s.heap.get? b = some o → h'.get? b = some o) E)
      (by simp [hh]) at_ (hl.push _) (Nat.ne_of_lt lt) hi hb fun h' tk c hR k => ⟨rfl, h', tk, rfl, c, hR, fun b o e => k b o (Nat.ne_of_lt (Heap.lt_size e)) (Heap.get?_push_of_some _ e)⟩) fun r2 s2 hr2 => ?_
    match r2, hr2 with
    | .error e, hr2 => exact hr2
    | .ok .next, hr2 => exact hr2.elim
    | .ok .brk, hr2 => exact hr2.elim
    | .ok .cont, hr2 => exact hr2.elim
    | .ok (.ret v), ⟨ev, h', tk, es, c, hR, k⟩ =>
      subst ev
      subst es
      repeat (any_goals (first | assumption | wp_step))
      exact q h' tk c hR k
end
end Mc
/-! sets of ints over the hand layer; their order; sums of first steps -/
namespace Mc
open PySem PySem.Spec PyProof.Rows L2
section
variable {X : Cx}
theorem intsAre_of : ∀ {ns : List Int} {us : List Value}, Vals (ns.map V.int) us → IntsAre us ns
  | [], _, .nil => .nil
  | n :: ns, _, .cons r t => by
    obtain ⟨k, rfl⟩ := r
    exact .cons n k (intsAre_of t)
/-- set(l) -/
def rSetI (K : PySem.W.Frag) (w : World) : List V → Hp → VK → Prop := fun xs H Q => ∃ (l : Addr) (ns : List Int), xs = [.ref l] ∧ SqL K H l (ns.map V.int) ∧ ns.length ≤ 4000 ∧
  ∀ p c, H p = none → Q (.ref p) (upd H p (SetO w p (fun j => decide (j ∈ ns)) c))
theorem cr_setI (hc : X.calm = true) : CallR X (.type "set") (rSetI X.K X.w) := by
  intro pins s σ H xs us Q I r h
  obtain ⟨l, ns, rfl, hs, hl, q⟩ := h
  obtain ⟨its, rv, pl, _⟩ := I.list hs
  rw [Vals.ref1 r]
  have e : ns.length + 1 < scanBound := by
    unfold scanBound
    omega
  refine setL_call (ns := ns) (I.ok.hd hc) pl.isList (by simpa using intsAre_of rv) e fun h' tk c hR k => ?_
  exact ⟨.ref _, upd H s.heap.objs.size (SetO X.w s.heap.objs.size (fun j => decide (j ∈ ns)) c), I.laid (t' := tk) k (Nat.le_refl _) (setO_new hR), rfl, q _ _ (I.hok.fresh (Nat.le_refl _))⟩
/-- len(s), s a set of ints -/
def rLenS (w : World) : List V → Hp → VK → Prop := fun xs H Q => ∃ (a : Addr) (S : Int → Bool) (c : Nat), xs = [.ref a] ∧ H a = some (SetO w a S c) ∧
  ∀ ks : List Int, ks.Nodup → (∀ k, S k = true ↔ k ∈ ks) → Q (.int ks.length) H
theorem cr_lenS : CallR X (.builtin "len") (rLenS X.w) := by
  intro pins s σ H xs us Q I r h
  obtain ⟨a, S, c, rfl, ha, q⟩ := h
  obtain ⟨o, es, ep, t, ho, hex, hd, g, nd, hm, hb, hf, hn, hr, hl⟩ := setO_get I ha
  rw [Vals.ref1 r]
  have e : scanBound = 4096 := rfl
  refine call_len_set ho hex hd hf (by omega) ⟨.int es.size, H, I.tok _, ⟨_, rfl⟩, ?_⟩
  have q2 := q (es.toList.map keyOf) nd hm
  rw [List.length_map, Array.length_toList] at q2
  exact q2
/-- sorted(s), s a set of ints of any size -/
def rSortS (w : World) : List V → Hp → VK → Prop := fun xs H Q => ∃ (a : Addr) (S : Int → Bool) (c : Nat), xs = [.ref a] ∧ H a = some (SetO w a S c) ∧
  ∀ (ns : List Int) (p : Addr), ns.Pairwise (· < ·) → (∀ k, k ∈ ns ↔ S k = true) → H p = none → Q (.ref p) (upd H p (.lst (ns.map V.int)))
theorem asc_of : ∀ {l : List Int}, l.Pairwise (· ≤ ·) → l.Nodup → l.Pairwise (· < ·)
  | [], _, _ => .nil
  | x :: l, h, d => by
    obtain ⟨h1, h2⟩ := List.pairwise_cons.mp h
    obtain ⟨d1, d2⟩ := List.nodup_cons.mp d
    refine List.pairwise_cons.mpr ⟨fun y hy => Int.lt_iff_le_and_ne.mpr ⟨h1 y hy, fun z => d1 (z ▸ hy)⟩, asc_of h2 d2⟩
theorem ints_keys : ∀ (l : List Value), (∀ v ∈ l, ∃ k tk, v = Value.int k tk) → IntsAre l (l.map SrtO.iv)
  | [], _ => .nil
  | v :: l, h => by
    obtain ⟨k, tk, rfl⟩ := h v (List.mem_cons_self ..)
    exact .cons k tk (ints_keys l fun u hu => h u (List.mem_cons_of_mem _ hu))
theorem cr_sortS (hc : X.calm = true) : CallR X (.builtin "sorted") (rSortS X.w) := by
  intro pins s σ H xs us Q I r h
  obtain ⟨a, S, c, rfl, ha, q⟩ := h
  obtain ⟨o, es, ep, t, ho, hex, hd, g, nd, hm, hb, hf, hn, hr, hl⟩ := setO_get I ha
  rw [Vals.ref1 r]
  have e4 : scanBound = 4096 := rfl
  refine Calls.call_function_entry kind_sorted plain_sorted entry_sorted (args_sorted1 _) ?_
  unfold Builtin.«sorted»
  refine wpAny_bind (m := checkCount "sorted" 1 1 _) (wpAny_pure (wpAny_bind (collect_set (A := X.A.in1) (I.ok.hd hc) ⟨o, ho, hex.1, hd⟩ hf hb hr hl fun s1 vs k1 z1 g1 o1 pm => ?_)))
  have vl : vs.length = es.size := by rw [pm.length_eq, List.length_map, Array.length_toList]
  have vsz : vs.length ≤ sizeLine := by rw [vl, sizeLine_eq]; omega
  have hI : IntsAre vs (vs.map SrtO.iv) := ints_keys vs fun v hv => by
    obtain ⟨e, he, rfl⟩ := List.mem_map.mp (pm.mem_iff.mp hv)
    obtain ⟨k, tk, h1, _⟩ := g e he
    exact ⟨k, tk, h1⟩
  have pk : (vs.map SrtO.iv).Perm (es.toList.map keyOf) := by
    have q := pm.map SrtO.iv
    rw [List.map_map] at q
    refine q.trans (List.Perm.of_eq (List.map_congr_left fun e he => ?_))
    obtain ⟨k, tk, h1, _⟩ := g e he
    show SrtO.iv e.2 = keyOf e
    unfold keyOf
    rw [h1]
    rfl
  refine wpAny_bind (wpAny_newList ?_ vsz)
  have at_ : (s1.heap.push (seqObj "list" vs.toArray 0)).get? s1.heap.objs.size = some (seqObj "list" vs.toArray 0) := Heap.get?_push_size _ rfl
  refine wpAny_bind (wpAny_holding (wpAny_call_entry slot_list_sort ⟨_, at_, rfl⟩ entry_list_sort
    (SrtO.list_sort_ord SrtO.swo_int at_ vsz (fun h2 => SrtO.ints_sortable hI h2) fun out a1 a2 => ⟨.none, rfl, ?_⟩) (args_list_sort _)))
  obtain ⟨b1, b2, b3⟩ := SrtO.ints_out hI a1 a2
  obtain ⟨n, hat⟩ := sortedHeap_at (vs := vs) (out := out.toArray) at_
  have pn : (out.map SrtO.iv).Perm (es.toList.map keyOf) := b2.trans pk
  have k2 : ∀ b u, s.heap.get? b = some u → (sortedHeap (s1.heap.push (seqObj "list" vs.toArray 0)) s1.heap.objs.size vs out.toArray).get? b = some u := fun b u e => by
    have e1 := k1 b u e
    have lt := Heap.lt_size e1
    rw [sortedHeap_old (Nat.ne_of_lt lt) (by rw [size_push']; exact Nat.lt_succ_of_lt lt)]
    exact Heap.get?_push_of_some _ e1
  have hnp : H s1.heap.objs.size = none := I.hok.fresh z1
  have len : ((out.map SrtO.iv).map V.int).length ≤ sizeLine := by
    rw [List.length_map, pn.length_eq, List.length_map, Array.length_toList, sizeLine_eq]
    omega
  obtain ⟨hp1, gg1, dd1, tt1, os1⟩ := s1
  obtain ⟨hp0, gg0, dd0, tt0, os0⟩ := s
  simp only at g1 o1
  subst g1
  subst o1
  have J := I.call (H' := upd H hp1.objs.size (.lst ((out.map SrtO.iv).map V.int))) (h' := sortedHeap (hp1.push (seqObj "list" vs.toArray 0)) hp1.objs.size vs out.toArray) (g' := gg1) (t' := tt1) (d' := dd1) (ch := [])
    (Un.laid k2 z1 hnp) (I.hok.laid k2 z1 (show ObjOk _ _ _ _ _ (.lst _) from ⟨len, out, n, vals_of_ints b1, hat⟩)) I.bare (fun _ z => nomatch z)
  exact wpAny_pure ⟨_, rfl, .ref _, _, J, rfl, q _ _ (asc_of b3 (pn.nodup_iff.mpr nd)) (fun k => by rw [pn.mem_iff, hm k]) hnp⟩
end
section
variable {H : Hp} {Q : VK} {K : PySem.W.Frag} {w : World}
theorem st_setI {l : Addr} {ns : List Int} (h : SqL K H l (ns.map V.int)) (hl : ns.length ≤ 4000) (q : ∀ p c, H p = none → Q (.ref p) (upd H p (SetO w p (fun j => decide (j ∈ ns)) c))) : rSetI K w [.ref l] H Q := ⟨l, ns, rfl, h, hl, q⟩
end
/-! ### ascending lists without duplicates -/
def insU (x : Int) : List Int → List Int
  | [] => [x]
  | y :: l => if x < y then x :: y :: l else if x = y then y :: l else y :: insU x l
def srt : List Int → List Int
  | [] => []
  | x :: l => insU x (srt l)
theorem mem_insU {x k : Int} : ∀ {l : List Int}, k ∈ insU x l ↔ k = x ∨ k ∈ l
  | [] => by simp [insU]
  | y :: l => by
    have ih := @mem_insU x k l
    unfold insU
    split
    · simp
    · split
      · rename_i h
        subst h
        simp
      · rw [List.mem_cons, ih, List.mem_cons]
        constructor
        · rintro (h | h | h)
          · exact .inr (.inl h)
          · exact .inl h
          · exact .inr (.inr h)
        · rintro (h | h | h)
          · exact .inr (.inl h)
          · exact .inl h
          · exact .inr (.inr h)
theorem mem_srt {k : Int} : ∀ {l : List Int}, k ∈ srt l ↔ k ∈ l
  | [] => by simp [srt]
  | y :: l => by
    have ih := @mem_srt k l
    rw [srt, mem_insU, ih, List.mem_cons]
theorem pw_insU {x : Int} : ∀ {l : List Int}, l.Pairwise (· < ·) → (insU x l).Pairwise (· < ·)
  | [], _ => by simp [insU]
  | y :: l, h => by
    obtain ⟨h1, h2⟩ := List.pairwise_cons.mp h
    unfold insU
    split
    · rename_i c
      refine List.pairwise_cons.mpr ⟨fun z hz => ?_, h⟩
      rcases List.mem_cons.mp hz with e | e
      · omega
      · have := h1 z e
        omega
    · split
      · exact h
      · refine List.pairwise_cons.mpr ⟨fun z hz => ?_, pw_insU h2⟩
        rcases mem_insU.mp hz with e | e
        · omega
        · exact h1 z e
theorem pw_srt : ∀ l : List Int, (srt l).Pairwise (· < ·)
  | [] => List.Pairwise.nil
  | x :: l => pw_insU (pw_srt l)
/-- an ascending list without duplicates is told by its members -/
theorem asc_eq : ∀ {l m : List Int}, l.Pairwise (· < ·) → m.Pairwise (· < ·) → (∀ k, k ∈ l ↔ k ∈ m) → l = m
  | [], [], _, _, _ => rfl
  | [], y :: m, _, _, h => absurd ((h y).mpr (List.mem_cons_self ..)) (by simp)
  | x :: l, [], _, _, h => absurd ((h x).mp (List.mem_cons_self ..)) (by simp)
  | x :: l, y :: m, h1, h2, h => by
    obtain ⟨a1, a2⟩ := List.pairwise_cons.mp h1
    obtain ⟨b1, b2⟩ := List.pairwise_cons.mp h2
    have e : x = y := by
      have p := (h x).mp (List.mem_cons_self ..)
      have q := (h y).mpr (List.mem_cons_self ..)
      rcases List.mem_cons.mp p with p | p
      · exact p
      · rcases List.mem_cons.mp q with q | q
        · exact q.symm
        · have := a1 y q
          have := b1 x p
          omega
    subst e
    rw [asc_eq a2 b2 fun k => ?_]
    constructor
    · intro hk
      rcases List.mem_cons.mp ((h k).mp (List.mem_cons_of_mem _ hk)) with e | e
      · have := a1 k hk
        omega
      · exact e
    · intro hk
      rcases List.mem_cons.mp ((h k).mpr (List.mem_cons_of_mem _ hk)) with e | e
      · have := b1 k hk
        omega
      · exact e
theorem srt_of {l ns : List Int} (h : l.Pairwise (· < ·)) (e : ∀ k, k ∈ l ↔ k ∈ ns) : l = srt ns := asc_eq h (pw_srt ns) fun k => (e k).trans mem_srt.symm
theorem srt_ext {l m : List Int} (h : ∀ k, k ∈ l ↔ k ∈ m) : srt l = srt m := srt_of (pw_srt l) fun k => mem_srt.trans (h k)
theorem insU_len (x : Int) : ∀ l : List Int, (insU x l).length ≤ l.length + 1
  | [] => by simp [insU]
  | y :: l => by
    have := insU_len x l
    unfold insU
    split
    · simp
    · split
      · simp
      · simp; omega
theorem srt_len : ∀ l : List Int, (srt l).length ≤ l.length
  | [] => by simp [srt]
  | x :: l => by
    have := srt_len l
    have := insU_len x (srt l)
    rw [srt, List.length_cons]
    omega
/-! ### sums of first steps -/
def smF (k : Int) : List Int → List Int
  | [] => [k]
  | n :: ns => k :: smF (k + n) ns
/-- 0 and the sums of the first steps -/
def sms (ns : List Int) : List Int := smF 0 ns
theorem smF_snoc (n : Int) : ∀ (ns : List Int) (k : Int), smF k (ns ++ [n]) = smF k ns ++ [k + ns.sum + n]
  | [], k => by simp [smF]
  | m :: ns, k => by
    rw [List.cons_append, smF, smF_snoc n ns, smF, List.sum_cons, List.cons_append, show k + m + ns.sum + n = k + (m + ns.sum) + n by omega]
theorem sms_snoc (ns : List Int) (n : Int) : sms (ns ++ [n]) = sms ns ++ [ns.sum + n] := by
  unfold sms
  rw [smF_snoc]
  simp
theorem smF_len : ∀ (ns : List Int) (k : Int), (smF k ns).length = ns.length + 1
  | [], k => rfl
  | n :: ns, k => by
    rw [smF, List.length_cons, smF_len ns, List.length_cons]
theorem sms_len (ns : List Int) : (sms ns).length = ns.length + 1 := smF_len ns 0
theorem smF_last : ∀ (ns : List Int) (k : Int), (smF k ns).getLast? = some (k + ns.sum)
  | [], k => by simp [smF]
  | n :: ns, k => by
    have h := smF_last ns (k + n)
    have h2 : smF (k + n) ns ≠ [] := fun z => by rw [z] at h; cases h
    rw [smF, List.getLast?_cons, h, List.sum_cons]
    show some (k + n + ns.sum) = _
    rw [show k + n + ns.sum = k + (n + ns.sum) by omega]
theorem sms_last (ns : List Int) : (sms ns).getLast? = some ns.sum := by
  have h := smF_last ns 0
  rw [Int.zero_add] at h
  exact h
theorem smF_head : ∀ (ns : List Int) (k : Int), k ∈ smF k ns
  | [], k => by simp [smF]
  | n :: ns, k => by simp [smF]
theorem sms_zero (ns : List Int) : 0 ∈ sms ns := smF_head ns 0
/-- the least of a day and the lengths of months -/
def dayL (n d : Int) (vs : List Int) : Int := (vs.map fun k => lenN (n + k)).foldl min d
theorem foldl_min_ext {l m : List Int} {a : Int} (h : ∀ k, k ∈ l ↔ k ∈ m) : l.foldl min a = m.foldl min a := by
  refine min_eq ?_ ?_
  · rcases List.mem_cons.mp (foldl_min_mem l a) with e | e
    · rw [e]
      exact List.mem_cons_self ..
    · exact List.mem_cons_of_mem _ ((h _).mp e)
  · intro y hy
    obtain ⟨q1, q2⟩ := foldl_min_le l a
    rcases List.mem_cons.mp hy with e | e
    · rw [e]
      exact q1
    · exact q2 y ((h y).mpr e)
theorem dayL_ext {n d : Int} {l m : List Int} (h : ∀ k, k ∈ l ↔ k ∈ m) : dayL n d l = dayL n d m := by
  refine foldl_min_ext fun k => ?_
  simp only [List.mem_map]
  exact ⟨fun ⟨a, b, c⟩ => ⟨a, (h a).mp b, c⟩, fun ⟨a, b, c⟩ => ⟨a, (h a).mpr b, c⟩⟩
theorem mvF_eq (n : Int) : ∀ (ns : List Int) (k d : Int), d ≤ lenN (n + k) → ns.foldl mvS (n + k, d) = (n + (k + ns.sum), dayL n d (smF k ns))
  | [], k, d, h => by
    have e : min d (lenN (n + k)) = d := by omega
    simp [dayL, smF, e]
  | x :: ns, k, d, h => by
    have ih := mvF_eq n ns (k + x) (min d (lenN (n + (k + x)))) (by omega)
    rw [List.foldl_cons, show mvS (n + k, d) x = (n + (k + x), min d (lenN (n + (k + x)))) by
      unfold mvS
      show (n + k + x, min d (lenN (n + k + x))) = _
      rw [show n + k + x = n + (k + x) by omega], ih, List.sum_cons]
    refine Prod.ext ?_ ?_
    · show n + (k + x + ns.sum) = n + (k + (x + ns.sum))
      omega
    · show dayL n (min d (lenN (n + (k + x)))) (smF (k + x) ns) = dayL n d (smF k (x :: ns))
      have hm : lenN (n + (k + x)) ∈ (smF (k + x) ns).map fun j => lenN (n + j) := List.mem_map.mpr ⟨_, smF_head ns (k + x), rfl⟩
      unfold dayL
      rw [smF, List.map_cons, List.foldl_cons, show min d (lenN (n + k)) = d by omega]
      generalize (smF (k + x) ns).map (fun j => lenN (n + j)) = ls at hm
      generalize lenN (n + (k + x)) = b at hm
      refine min_eq ?_ ?_
      · have q := foldl_min_mem ls (min d b)
        rcases List.mem_cons.mp q with e | e
        · by_cases c : d ≤ b
          · rw [e, Int.min_eq_left c]
            exact List.mem_cons_self ..
          · rw [e, Int.min_eq_right (by omega)]
            exact List.mem_cons_of_mem _ hm
        · exact List.mem_cons_of_mem _ e
      · intro y hy
        obtain ⟨q1, q2⟩ := foldl_min_le ls (min d b)
        rcases List.mem_cons.mp hy with e | e
        · omega
        · exact q2 y e
theorem mvL_eq {s : Dt} (h : okS s) (ns : List Int) : mvL s ns = (s.1 + ns.sum, dayL s.1 s.2 (sms ns)) := by
  have q := mvF_eq s.1 ns 0 s.2 (by rw [Int.add_zero]; exact h.2)
  rw [Int.add_zero, Int.zero_add] at q
  exact q
theorem smF_cons (a k : Int) (ns : List Int) : smF a (k :: ns) = a :: smF (a + k) ns := rfl
/-- the differences of a list's neighbours -/
def dif (a : Int) : List Int → List Int
  | [] => []
  | b :: l => (b - a) :: dif b l
theorem smF_dif : ∀ (l : List Int) (a : Int), smF a (dif a l) = a :: l
  | [], a => rfl
  | b :: l, a => by
    rw [dif, smF, show a + (b - a) = b by omega, smF_dif l b]
theorem dif_len : ∀ (l : List Int) (a : Int), (dif a l).length = l.length
  | [], a => rfl
  | b :: l, a => by rw [dif, List.length_cons, dif_len l b, List.length_cons]
section
variable {H : Hp} {Q : VK} {w : World}
theorem st_sortS {a : Addr} {ns : List Int} {c : Nat} (h : H a = some (SetO w a (fun j => decide (j ∈ ns)) c)) (q : ∀ p, H p = none → Q (.ref p) (upd H p (.lst ((srt ns).map V.int)))) : rSortS w [.ref a] H Q :=
  ⟨a, _, c, rfl, h, fun ms p h1 h2 hp => by
    rw [srt_of h1 fun k => (h2 k).trans decide_eq_true_iff]
    exact q p hp⟩
theorem st_lenS {a : Addr} {ns : List Int} {c : Nat} (h : H a = some (SetO w a (fun j => decide (j ∈ ns)) c)) (q : Q (.int (srt ns).length) H) : rLenS w [.ref a] H Q :=
  ⟨a, _, c, rfl, h, fun ks h1 h2 => by
    have e : ks.Perm (srt ns) := (List.perm_ext_iff_of_nodup h1 ((pw_srt ns).imp fun h => Int.ne_of_lt h)).mpr fun k => (h2 k).symm.trans (decide_eq_true_iff.trans mem_srt.symm)
    rw [e.length_eq]
    exact q⟩
end
theorem sum_take {ns : List Int} {i : Nat} {k : Int} (h : ns[i]? = some k) : (ns.take (i + 1)).sum = (ns.take i).sum + k := by
  rw [List.take_add_one, h]
  simp
theorem sms_take {ns : List Int} {i : Nat} {k : Int} (h : ns[i]? = some k) : sms (ns.take (i + 1)) = sms (ns.take i) ++ [(ns.take i).sum + k] := by
  rw [List.take_add_one, h]
  exact sms_snoc _ _
theorem cutV_to {xs : List V} {c : Int} (h0 : 0 ≤ c) : cutV xs none (some c) = xs.take c.toNat := by
  obtain ⟨k, rfl⟩ := Int.eq_ofNat_of_zero_le h0
  unfold cutV
  rw [HT.sIx_none, HT.sIx_nat, List.drop_zero]
  show xs.take (min k xs.length) = xs.take k
  by_cases h : k ≤ xs.length
  · rw [Nat.min_eq_left h]
  · rw [Nat.min_eq_right (by omega), List.take_of_length_le (Nat.le_refl _), List.take_of_length_le (by omega)]
/-- list(xs) -/
def rListQ (K : PySem.W.Frag) : List V → Hp → VK → Prop := fun xs H Q => ∃ p ys, xs = [.ref p] ∧ (SqL K H p ys ∨ SqT K H p ys) ∧ ∀ l, H l = none → Q (.ref l) (upd H l (.lst ys))
theorem call_listQ {X : Cx} : CallR X (.type "list") (rListQ X.K) := call_list_of
theorem dif_get : ∀ {l : List Int} {a : Int} {i : Nat} {x y : Int}, (a :: l)[i]? = some x → l[i]? = some y → (dif a l)[i]? = some (y - x)
  | [], _, _, _, _, _, h => by cases h
  | b :: l, a, 0, x, y, h1, h2 => by
    cases h1
    cases h2
    rfl
  | b :: l, a, i + 1, x, y, h1, h2 => by
    show (dif b l)[i]? = _
    exact dif_get h1 h2
section
variable {H : Hp} {Q : VK} {K : PySem.W.Frag} {p : Addr} {ns : List Int}
theorem st_listQ {xs : List V} (h : SqL K H p xs) (q : ∀ l, H l = none → Q (.ref l) (upd H l (.lst xs))) : rListQ K [.ref p] H Q := ⟨p, xs, rfl, .inl h, q⟩
theorem st_slUp {c : Int} (h : SqL K H p (ns.map V.int)) (h0 : 0 ≤ c) (q : ∀ u, H u = none → Q (.ref u) (upd H u (.lst ((ns.take c.toNat).map V.int)))) : rSlL K (.ref p) none (some c) H Q := by
  refine st_slL h ?_
  rw [cutV_to h0, ← List.map_take]
  exact q
theorem map_erase : ∀ (l : List Int) (j : Nat), (l.map V.int).eraseIdx j = (l.eraseIdx j).map V.int
  | [], _ => rfl
  | _ :: _, 0 => rfl
  | a :: l, j + 1 => by
    show V.int a :: (l.map V.int).eraseIdx j = V.int a :: (l.eraseIdx j).map V.int
    rw [map_erase l j]
/-- xs.pop(r) -/
theorem st_popI {r : Int} (h : H p = some (.lst (ns.map V.int))) (h0 : 0 ≤ r) (h1 : r < ns.length) (hl : ns.length ≤ 100000) (q : ∀ k, ns[r.toNat]? = some k → Q (.int k) (upd H p (.lst ((ns.eraseIdx r.toNat).map V.int)))) : rPopAt (.ref p) [.int r] H Q := by
  have lt : r.toNat < ns.length := by omega
  refine ⟨p, _, r, r.toNat, .int ns[r.toNat], rfl, rfl, h, by omega, by omega, ?_, ?_, ?_⟩
  · rw [List.length_map]
    exact seqIndex_of h0 h1
  · rw [List.getElem?_map, List.getElem?_eq_getElem lt]
    rfl
  · rw [map_erase]
    exact q _ (List.getElem?_eq_getElem lt)
theorem st_zip {ta : TA} {σ : L2.St} {R : It → Hp → Prop} (h : ta σ H fun vs H1 => ∃ a b xs ys, vs = [.ref a, .ref b] ∧ SqL K H1 a xs ∧ SqL K H1 b ys ∧ R (Itz K a b) H1) : iZip K ta σ H R := h
theorem st_zip2 {a b : Addr} {xs ys : List V} {R : It → Prop} (hx : SqL K H a xs) (hy : SqL K H b ys) (q : R (Itz K a b)) : ∃ a' b' xs ys, [V.ref a, .ref b] = [.ref a', .ref b'] ∧ SqL K H a' xs ∧ SqL K H b' ys ∧ R (Itz K a' b') := ⟨a, b, xs, ys, rfl, hx, hy, q⟩
/-- a list of zip(a, b), a the longer one -/
theorem lcZ {a b D : Addr} {xs ys : List V} {g : TG} {tt : TT} {te : TE} {vs : List Nat} {σ : L2.St} {Qd : Hp → Prop} (hlen : ys.length ≤ xs.length) (Pv : Nat → Hp → Prop) (h0 : Pv 0 (upd H D (.lst [])))
    (hq : ∀ i H, Pv i H → SqL K H a xs ∧ SqL K H b ys)
    (hs : ∀ (i : Nat) (x y : V) (T : Addr) (H : Hp), xs[i]? = some x → ys[i]? = some y → Pv i H → H T = none → g (.ref T) (wipe σ vs) (upd H T (.tup [x, y])) fun σ2 H2 => wipe σ2 vs = wipe σ vs ∧ tt σ2 H2 fun c H3 =>
      if c = true then te σ2 H3 fun z H4 => ∃ acc, H4 D = some (.lst acc) ∧ acc.length < sizeLine ∧ Pv (i + 1) (upd H4 D (.lst (acc ++ [z]))) else Pv (i + 1) H3) (hd : ∀ H, Pv ys.length H → Qd H) :
    ∃ W : Nat → Nat → Hp → Prop, (∃ m, W 0 m (upd H D (.lst []))) ∧ ∀ i m H, W i m H →
      ((Itz K a b).stop i H ∧ Qd H) ∨ ((Itz K a b).go i H ∧ ∃ Nx : Hp → Prop, (∀ H', Nx H' → ∃ m', m' < m ∧ W (i + 1) m' H') ∧ ∀ x H', (Itz K a b).yld i H x H' → g x (wipe σ vs) H' fun σ2 H2 => wipe σ2 vs = wipe σ vs ∧ tt σ2 H2 fun c H3 =>
        if c = true then te σ2 H3 fun z H4 => ∃ acc, H4 D = some (.lst acc) ∧ acc.length < sizeLine ∧ Nx (upd H4 D (.lst (acc ++ [z]))) else Nx H3) := by
  refine ⟨fun i m H => m = ys.length - i ∧ i ≤ ys.length ∧ Pv i H, ⟨_, rfl, Nat.zero_le _, h0⟩, ?_⟩
  rintro i m H1 ⟨rfl, hi, p⟩
  obtain ⟨sx, sy⟩ := hq i H1 p
  by_cases c : i < ys.length
  · have gx := List.getElem?_eq_getElem (show i < xs.length by omega)
    have gy := List.getElem?_eq_getElem c
    refine .inr ⟨⟨xs, ys, _, _, sx, sy, gx, gy⟩, Pv (i + 1), fun H' p' => ⟨_, Nat.sub_succ_lt_self _ _ c, rfl, c, p'⟩, ?_⟩
    rintro v H' ⟨T, x', y', rfl, hT, rfl, fx, fy⟩
    exact hs i x' y' T H1 (fx xs sx) (fy ys sy) p hT
  · obtain rfl : i = ys.length := by omega
    exact .inl ⟨⟨xs, ys, sx, sy, .inr (Nat.le_refl _)⟩, hd H1 p⟩
end
end Mc
/-! a bag of draws: a dict with four text keys -/
namespace Mc
open PySem PySem.Spec PyProof.Rows L2
def kGreat : Key := .inr "great"
def kLeft : Key := .inr "left"
def kTurn : Key := .inr "turn"
def kFold : Key := .inr "fold"
def bagL (g : Addr) (l t f : Int) : List (Key × V) := [(kGreat, .ref g), (kLeft, .int l), (kTurn, .int t), (kFold, .int f)]
theorem key_ne {x y : Str} (h : decide (x = y) = false) : ¬ (Sum.inr x : Key) = .inr y := fun z => of_decide_eq_false h (Sum.inr.inj z)
theorem n12 : ¬ kGreat = kLeft := key_ne (by decide +kernel)
theorem n13 : ¬ kGreat = kTurn := key_ne (by decide +kernel)
theorem n14 : ¬ kGreat = kFold := key_ne (by decide +kernel)
theorem n23 : ¬ kLeft = kTurn := key_ne (by decide +kernel)
theorem n24 : ¬ kLeft = kFold := key_ne (by decide +kernel)
theorem n34 : ¬ kTurn = kFold := key_ne (by decide +kernel)
section
variable {g : Addr} {l t f z : Int}
theorem bag_g : valV (bagL g l t f) kGreat = some (.ref g) := valV_pos rfl
theorem bag_l : valV (bagL g l t f) kLeft = some (.int l) := (valV_neg n12).trans (valV_pos rfl)
theorem bag_t : valV (bagL g l t f) kTurn = some (.int t) := (valV_neg n13).trans ((valV_neg n23).trans (valV_pos rfl))
theorem bag_f : valV (bagL g l t f) kFold = some (.int f) := (valV_neg n14).trans ((valV_neg n24).trans ((valV_neg n34).trans (valV_pos rfl)))
theorem bag_pl : putK (bagL g l t f) kLeft (.int z) = bagL g z t f := by
  simp [putK, bagL, n12, n23, n24, Ne.symm n23, Ne.symm n24]
theorem bag_pt : putK (bagL g l t f) kTurn (.int z) = bagL g l z f := by
  simp [putK, bagL, n13, n23, n34, Ne.symm n34]
theorem bag_new : mergeK [] [(kGreat, .ref g), (kLeft, .int l), (kTurn, .int t), (kFold, .int f)] = bagL g l t f := by
  simp [mergeK, putK, bagL, n12, n13, n14, n23, n24, n34]
end
section
variable {σ : L2.St} {H : Hp} {Q : VK} {v : V} {td ty tv : TE} {nx : L2.St → Hp → Prop} {rt : VK} {bk ct : L2.St → Hp → Prop} {B g : Addr} {l t f z : Int} {R : V → Prop}
theorem st_disp {trs : List (TE × TE)} (h : ∀ p, H p = none → tPairs trs σ (upd H p (.dK [])) fun ps H2 => H2 p = some (.dK []) ∧ ∃ kvs : List (Key × V), ps = kvs.map (fun kv => (kV kv.1, kv.2)) ∧ kvs.length ≤ 15 ∧ Q (.ref p) (upd H2 p (.dK (mergeK [] kvs)))) : tDisp trs σ H Q := h
theorem st_pr {r : List (TE × TE)} {R : List (V × V) → Hp → Prop} (h : td σ H fun x H1 => ty σ H1 fun y H2 => tPairs r σ H2 fun ps H3 => R ((x, y) :: ps) H3) : tPairs ((td, ty) :: r) σ H R := h
theorem st_prE {R : List (V × V) → Hp → Prop} (h : R [] H) : tPairs [] σ H R := h
theorem st_dget (h : td σ H fun x H1 => ty σ H1 fun y H2 => ∃ a v, x = .ref a ∧ DGet H2 a y (some v) ∧ Q v H2) : tDGet td ty σ H Q := h
theorem st_bgG (h : H B = some (.dK (bagL g l t f))) (q : R (.ref g)) : ∃ a v, V.ref B = .ref a ∧ DGet H a (.str "great") (some v) ∧ R v := ⟨B, _, rfl, .inl ⟨_, kGreat, .inl h, rfl, bag_g.symm⟩, q⟩
theorem st_bgL (h : H B = some (.dK (bagL g l t f))) (q : R (.int l)) : ∃ a v, V.ref B = .ref a ∧ DGet H a (.str "left") (some v) ∧ R v := ⟨B, _, rfl, .inl ⟨_, kLeft, .inl h, rfl, bag_l.symm⟩, q⟩
theorem st_bgT (h : H B = some (.dK (bagL g l t f))) (q : R (.int t)) : ∃ a v, V.ref B = .ref a ∧ DGet H a (.str "turn") (some v) ∧ R v := ⟨B, _, rfl, .inl ⟨_, kTurn, .inl h, rfl, bag_t.symm⟩, q⟩
theorem st_bgF (h : H B = some (.dK (bagL g l t f))) (q : R (.int f)) : ∃ a v, V.ref B = .ref a ∧ DGet H a (.str "fold") (some v) ∧ R v := ⟨B, _, rfl, .inl ⟨_, kFold, .inl h, rfl, bag_f.symm⟩, q⟩
theorem st_dput (h : tv σ H fun v H1 => td σ H1 fun x H2 => ty σ H2 fun y H3 => ∃ a H4, x = .ref a ∧ DPut H3 a y v H4 ∧ nx σ H4) : sDPut td ty tv ⟨nx, rt, bk, ct⟩ σ H := h
theorem st_bpL {R : Hp → Prop} (h : H B = some (.dK (bagL g l t f))) (q : R (upd H B (.dK (bagL g z t f)))) : ∃ a H4, V.ref B = .ref a ∧ DPut H a (.str "left") (.int z) H4 ∧ R H4 :=
  ⟨B, _, rfl, .inl ⟨_, kLeft, h, rfl, (by decide : 4 < sizeLine), rfl⟩, by rw [bag_pl]; exact q⟩
theorem st_daug {rd : V → V → Hp → VK → Prop} (h : td σ H fun x H1 => ty σ H1 fun y H2 => ∃ a v, x = .ref a ∧ DGet H2 a y (some v) ∧ tv σ H2 fun y2 H3 => rd v y2 H3 fun z H4 => ∃ H5, DPut H4 a y z H5 ∧ nx σ H5) : sDAug td ty tv rd ⟨nx, rt, bk, ct⟩ σ H := h
/-- bag['turn'] += 1 -/
theorem st_bagT {R : Hp → Prop} (h : H B = some (.dK (bagL g l t f))) (q : R (upd H B (.dK (bagL g l (t + 1) f)))) :
    ∃ a v, V.ref B = .ref a ∧ DGet H a (.str "turn") (some v) ∧ tC (.int 1) σ H fun y2 H3 => rI0 (fun i j => .int (i + j)) v y2 H3 fun z H4 => ∃ H5, DPut H4 a (.str "turn") z H5 ∧ R H5 :=
  ⟨B, _, rfl, .inl ⟨_, kTurn, .inl h, rfl, bag_t.symm⟩, _, _, rfl, rfl, _, .inl ⟨_, kTurn, h, rfl, (by decide : 4 < sizeLine), rfl⟩, by rw [bag_pt]; exact q⟩
end
/-- [f(k) for k in ns if p(k)] -/
theorem lcFM {K : PySem.W.Frag} {a C : Addr} {ns : List Int} {g : TG} {tt : TT} {te : TE} {vs : List Nat} {σ : L2.St} {H : Hp} {Qd : Hp → Prop} (p : Int → Bool) (f : Int → Int) (hs : SqL K H a (ns.map V.int)) (n : H C = none) (hl : ns.length ≤ 100000)
    (step : ∀ (k : Int) (H' : Hp) (R : VK) (RF : Hp → Prop), k ∈ ns → Same H H' → (p k = true → ∀ H4, Same H' H4 → R (.int (f k)) H4) → (p k = false → ∀ H4, Same H' H4 → RF H4) →
      g (.int k) (wipe σ vs) H' fun σ2 H2 => wipe σ2 vs = wipe σ vs ∧ tt σ2 H2 fun b H3 => if b = true then te σ2 H3 R else RF H3)
    (q : ∀ H', Same H H' → H' C = some (.lst (((ns.filter p).map f).map V.int)) → Qd H') :
    ∃ W : Nat → Nat → Hp → Prop, (∃ m, W 0 m (upd H C (.lst []))) ∧ ∀ i m H, W i m H →
      ((Itl K a).stop i H ∧ Qd H) ∨ ((Itl K a).go i H ∧ ∃ Nx : Hp → Prop, (∀ H', Nx H' → ∃ m', m' < m ∧ W (i + 1) m' H') ∧ ∀ x H', (Itl K a).yld i H x H' → g x (wipe σ vs) H' fun σ2 H2 => wipe σ2 vs = wipe σ vs ∧ tt σ2 H2 fun b H3 =>
        if b = true then te σ2 H3 fun y H4 => ∃ acc, H4 C = some (.lst acc) ∧ acc.length < sizeLine ∧ Nx (upd H4 C (.lst (acc ++ [y]))) else Nx H3) := by
  refine lc_list (xs := ns.map V.int) (fun i H' => Same H H' ∧ H' C = some (.lst ((((ns.take i).filter p).map f).map V.int))) ⟨Same.new n, upd_same⟩ (fun i H' _ e => e.1.seq hs) (fun i x H' hx e => ?_) (fun H' e => ?_)
  · obtain ⟨sm, hC⟩ := e
    obtain ⟨k, gk, rfl⟩ := int_at hx
    refine step k H' _ _ (List.mem_of_getElem? gk) sm (fun hp H4 s4 => ?_) (fun hp H4 s4 => ?_)
    · refine ⟨_, s4 _ _ hC, len_lt ?_, same_trU n (same_tr s4 sm), ?_⟩
      · have l1 := List.length_filter_le p (ns.take i)
        rw [List.length_map, List.length_map]
        rw [List.length_take] at l1
        have l2 : i < ns.length := (List.getElem?_eq_some_iff.mp gk).1
        omega
      · rw [upd_same, List.take_add_one, gk, List.filter_append]
        simp [hp]
    · refine ⟨same_tr s4 sm, ?_⟩
      rw [s4 _ _ hC, List.take_add_one, gk, List.filter_append]
      simp [hp]
  · obtain ⟨sm, hC⟩ := e
    rw [List.length_map, List.take_length] at hC
    exact q H' sm hC
theorem filter_true (ns : List Int) : ns.filter (fun _ => true) = ns := by simp
/-- [f(k) for k in (.., ..) if p(k)] -/
theorem lcFT {K : PySem.W.Frag} {a C : Addr} {ns : List Int} {g : TG} {tt : TT} {te : TE} {vs : List Nat} {σ : L2.St} {H : Hp} {Qd : Hp → Prop} (p : Int → Bool) (f : Int → Int) (hs : SqT K H a (ns.map V.int)) (n : H C = none) (hl : ns.length ≤ 100000)
    (step : ∀ (k : Int) (H' : Hp) (R : VK) (RF : Hp → Prop), k ∈ ns → Same H H' → (p k = true → ∀ H4, Same H' H4 → R (.int (f k)) H4) → (p k = false → ∀ H4, Same H' H4 → RF H4) →
      g (.int k) (wipe σ vs) H' fun σ2 H2 => wipe σ2 vs = wipe σ vs ∧ tt σ2 H2 fun b H3 => if b = true then te σ2 H3 R else RF H3)
    (q : ∀ H', Same H H' → H' C = some (.lst (((ns.filter p).map f).map V.int)) → Qd H') :
    ∃ W : Nat → Nat → Hp → Prop, (∃ m, W 0 m (upd H C (.lst []))) ∧ ∀ i m H, W i m H →
      ((Itt K a).stop i H ∧ Qd H) ∨ ((Itt K a).go i H ∧ ∃ Nx : Hp → Prop, (∀ H', Nx H' → ∃ m', m' < m ∧ W (i + 1) m' H') ∧ ∀ x H', (Itt K a).yld i H x H' → g x (wipe σ vs) H' fun σ2 H2 => wipe σ2 vs = wipe σ vs ∧ tt σ2 H2 fun b H3 =>
        if b = true then te σ2 H3 fun y H4 => ∃ acc, H4 C = some (.lst acc) ∧ acc.length < sizeLine ∧ Nx (upd H4 C (.lst (acc ++ [y]))) else Nx H3) := by
  refine lc_tup (xs := ns.map V.int) (fun i H' => Same H H' ∧ H' C = some (.lst ((((ns.take i).filter p).map f).map V.int))) ⟨Same.new n, upd_same⟩ (fun i H' _ e => Same.tup e.1 hs) (fun i x H' hx e => ?_) (fun H' e => ?_)
  · obtain ⟨sm, hC⟩ := e
    obtain ⟨k, gk, rfl⟩ := int_at hx
    refine step k H' _ _ (List.mem_of_getElem? gk) sm (fun hp H4 s4 => ?_) (fun hp H4 s4 => ?_)
    · refine ⟨_, s4 _ _ hC, len_lt ?_, same_trU n (same_tr s4 sm), ?_⟩
      · have l1 := List.length_filter_le p (ns.take i)
        rw [List.length_map, List.length_map]
        rw [List.length_take] at l1
        have l2 : i < ns.length := (List.getElem?_eq_some_iff.mp gk).1
        omega
      · rw [upd_same, List.take_add_one, gk, List.filter_append]
        simp [hp]
    · refine ⟨same_tr s4 sm, ?_⟩
      rw [s4 _ _ hC, List.take_add_one, gk, List.filter_append]
      simp [hp]
  · obtain ⟨sm, hC⟩ := e
    rw [List.length_map, List.take_length] at hC
    exact q H' sm hC
/-- repr(i) -/
def rReprI : List V → Hp → VK → Prop := fun xs H Q => ∃ i, xs = [.int i] ∧ i.natAbs.log2 < 1920 ∧ Q (.str (toString i)) H
theorem call_reprI {X : Cx} : CallR X (.builtin "repr") rReprI := SkE.call_repr_int
theorem st_reprI {H : Hp} {Q : VK} {i : Int} {b : Nat} (h : i.natAbs < 2 ^ b) (h0 : 0 < b) (hb : b ≤ 1900) (q : Q (.str (toString i)) H) : rReprI [.int i] H Q :=
  ⟨i, rfl, Nat.lt_of_lt_of_le (PySem.Flt.log2_lt_of h0 h) (by omega), q⟩
end Mc
/-! exceptions of own classes with a field, over a base class of the program's own -/
namespace Mc
open PySem PySem.Spec PyProof.Rows L2
/-- the j-th statement of a class's body -/
def clsS (s : Stmt) (j : Nat) : Stmt := match s with
  | .ClassDef (body := b) .. => b.getD j (.Pass ⟨0, 0, 0, 0⟩)
  | s => s
/-- the class's record is one of an exception over ValueError -/
def oexB (K : PySem.W.Frag) (C : Addr) : Bool := match K.lookup C with
  | some ⟨.type "type", _, .cls cd, sl⟩ => (match cd.mro, sl.toList with
    | .ref D :: bm, [_, _, _, _, some (.builtin n), _] => decide (D = C) && (decide (n = "ValueError.__new__") && (cd.hasDict && (!cd.hasDel && PySem.HandSPX.refsVE bm)))
    | _, _ => false)
  | _ => false
/-- all that is asked of such a class -/
def excKB (K : PySem.W.Frag) (C : Addr) : Bool :=
  oexB K C && (decide (PySem.W.findIn K (.ref C) "__setattr__" = some (some (.builtin "object.__setattr__"))) && (decide (PySem.W.subIn K (.ref C) (.type "BaseException") = some true) && (decide (PySem.W.typeIn K (.ref C) = some (.type "type")) &&
  (PySem.W.keepIn K (.ref C) && (decide (PySem.W.findIn K (.ref C) "__init__" = some (some (.ref (He.ma K C "__init__")))) && (decide (PySem.W.typeIn K (.ref (He.ma K C "__init__")) = some (.type "function")) &&
  (decide (PySem.W.findIn K (.ref C) "value" = some none) && (xfB K C && (decide (PySem.W.findIn K (.ref C) "__class__" = some (some (.builtin "object.__class__"))) &&
  (decide (PySem.W.specialIn K (.builtin "object.__class__") "__get__" = some (some (.builtin "getset_descriptor.__get__"))) && (decide (PySem.W.takesIn K (.builtin "object.__class__") = some true) && decide (PySem.W.mroIn K C (.type "object") = some true))))))))))))
structure ExcK (K : PySem.W.Frag) (C : Addr) : Prop where
  oex : OexC K C
  iC : PySem.W.findIn K (.ref C) "__init__" = some (some (.ref (He.ma K C "__init__")))
  tI : PySem.W.typeIn K (.ref (He.ma K C "__init__")) = some (.type "function")
  noV : PySem.W.findIn K (.ref C) "value" = some none
  xf : XfC K C
  ha : PySem.W.findIn K (.ref C) "__class__" = some (some (.builtin "object.__class__"))
  hn : PySem.W.specialIn K (.builtin "object.__class__") "__get__" = some (some (.builtin "getset_descriptor.__get__"))
  ht : PySem.W.takesIn K (.builtin "object.__class__") = some true
  hm : PySem.W.mroIn K C (.type "object") = some true
theorem oexB_ok {K : PySem.W.Frag} {C : Addr} (q : oexB K C = true) : ∃ nm q N bs bm sn sub ab col dd k0 k1 k2 k3 k5, K.lookup C = some (excClassObj nm q C N bs bm true sn sub ab col dd k0 k1 k2 k3 k5 "ValueError.__new__") ∧ PySem.HandSPX.refsVE bm = true := by
  unfold oexB at q
  split at q
  · rename_i dd cd sl e
    split at q
    · rename_i D bm k0 k1 k2 k3 n k5 em el
      obtain ⟨q1, q⟩ := He.ba q
      obtain ⟨q2, q⟩ := He.ba q
      obtain ⟨q3, q⟩ := He.ba q
      obtain ⟨q4, q5⟩ := He.ba q
      obtain ⟨nm, bs, mro, ns, qn, hd, sn, sub, ab, col, del⟩ := cd
      simp only at em q3 q4
      obtain rfl : D = C := of_decide_eq_true q1
      obtain rfl : n = "ValueError.__new__" := of_decide_eq_true q2
      subst em
      subst q3
      obtain rfl : del = false := by simpa using q4
      obtain rfl : sl = #[k0, k1, k2, k3, some (.builtin "ValueError.__new__"), k5] := by
        obtain ⟨l⟩ := sl
        exact congrArg Array.mk el
      exact ⟨nm, qn, ns, bs, bm, sn, sub, ab, col, dd, k0, k1, k2, k3, k5, e, q5⟩
    · cases q
  · cases q
theorem excKB_ok {K : PySem.W.Frag} {C : Addr} (q : excKB K C = true) : ExcK K C := by
  obtain ⟨a1, q⟩ := He.ba q
  obtain ⟨a2, q⟩ := He.ba q
  obtain ⟨a3, q⟩ := He.ba q
  obtain ⟨a4, q⟩ := He.ba q
  obtain ⟨a5, q⟩ := He.ba q
  obtain ⟨a6, q⟩ := He.ba q
  obtain ⟨a7, q⟩ := He.ba q
  obtain ⟨a8, q⟩ := He.ba q
  obtain ⟨a9, q⟩ := He.ba q
  obtain ⟨b1, q⟩ := He.ba q
  obtain ⟨b2, q⟩ := He.ba q
  obtain ⟨b3, b4⟩ := He.ba q
  exact ⟨⟨oexB_ok a1, of_decide_eq_true a2, of_decide_eq_true a3, of_decide_eq_true a4, a5⟩, of_decide_eq_true a6, of_decide_eq_true a7, of_decide_eq_true a8, xfB_ok a9, of_decide_eq_true b1, of_decide_eq_true b2, of_decide_eq_true b3, of_decide_eq_true b4⟩
/-- the base class: its __init__ is ValueError's -/
def baseB (K : PySem.W.Frag) (D : Addr) : Bool := PySem.W.readsIn K D (.type "type") && (decide (PySem.W.specialIn K (.ref D) "__getattribute__" = some (some (.builtin "type.__getattribute__"))) &&
  (match PySem.W.findCls K (.ref D) (.type "type") "__init__" with
    | some (.val (.builtin n)) => decide (n = "ValueError.__init__")
    | _ => false))
structure BaseK (K : PySem.W.Frag) (D : Addr) : Prop where
  rd : PySem.W.readsIn K D (.type "type") = true
  ga : PySem.W.specialIn K (.ref D) "__getattribute__" = some (some (.builtin "type.__getattribute__"))
  at_ : PySem.W.findCls K (.ref D) (.type "type") "__init__" = some (.val (.builtin "ValueError.__init__"))
theorem baseB_ok {K : PySem.W.Frag} {D : Addr} (q : baseB K D = true) : BaseK K D := by
  obtain ⟨a1, q⟩ := He.ba q
  obtain ⟨a2, q⟩ := He.ba q
  refine ⟨a1, of_decide_eq_true a2, ?_⟩
  split at q
  · rename_i n e
    rw [e, show n = "ValueError.__init__" from of_decide_eq_true q]
  · cases q
section
variable {X : Cx} {D : Addr} {e : Expr} {es : List Expr} {ta : TA} {p1 p2 pos : Pos} {x : Str}
/-- Base.__init__(self, ..) -/
theorem pe_binit {pl : Sem Bool} (hg : Gl X x) (hm : X.mg x = some (.ref D)) (hb : BaseK X.K D) (ha : PA X (e :: es) ta)
    (hc : eval (.Call (.Attribute (.Name x p1) "__init__" p2) (e :: es) [] pos) X.env = (do
      let ov ← eval (.Name x p1) X.env
      standAt p2.atName
      let (f, first) ← holding [ov] (getMethod ov "__init__" pl)
      callWith pos f first (backTo pos (starEach (e :: es) X.env)) (backToKw pos (keywordEach [] X.env))) := by rfl)
    (hdb : (x == ("__debug__" : Str)) = false := by decide)
    (he : starEach (e :: es) X.env = (false, eval e X.env) :: starEach es X.env := by rfl) (hpl : (backTo pos (starEach es X.env)).any (·.1) = false := by rfl) :
    PE X (.Call (.Attribute (.Name x p1) "__init__" p2) (e :: es) [] pos) (tVeI X.K ta) := by
  refine ⟨fun pins s σ H Q I h => ?_⟩
  refine PySem.W.methodCall_KW (ld_glob I hg hm ?_ hdb) hc
  refine PySem.W.method_cls I.kIn hb.ga (PySem.W.cls_value I.kIn hb.rd hb.at_ (by decide +kernel) ?_)
  show wpAny _ _ (callWith pos (Value.builtin "ValueError.__init__") [] (backTo pos (starEach (e :: es) X.env)) []) _ _ _
  refine PyProof.Rows.callWith_method1 (thn (ha.run pos pins _ σ H _ (I.tok _) h) fun us s1 ⟨vs, H1, I1, r1, q⟩ => ?_) he hpl
  obtain ⟨a, C, ws, rfl, hl, T, ea, q⟩ := q
  match us, r1 with
  | u :: ur, .cons ra rw' =>
    obtain rfl : u = Value.ref a := ra
    refine oinit_ok T I1 ea ?_ fun s' J => ⟨.non, H1, J, rfl, q⟩
    rw [← Paired.length rw', sizeLine_eq]
    omega
end
/-! ### an exception that is held (in a suite: pinned) -/
section
variable {X : Cx} {a : Addr} {cls : Value} {d : Option Addr} {oe : Obj}
/-- isinstance(e, c) -/
def rIsX (K : PySem.W.Frag) (a : Addr) (cls : Value) (d : Option Addr) : List V → Hp → VK → Prop := fun xs H Q => ∃ (C dx : Addr) (fs : List (Str × V)) (c : V) (cv : Value) (b : Bool), xs = [.ref a, c] ∧ cls = .ref C ∧ d = some dx ∧ ExcK K C ∧ H dx = some (.xd fs) ∧
  (∀ u, RelV c u → u = cv) ∧ PySem.W.kitOne K (.ref C) cv = some b ∧ Q (.bl b) H
/-- isinstance(e, (c, ..)) -/
def rIsXT (K : PySem.W.Frag) (a : Addr) (cls : Value) (d : Option Addr) : List V → Hp → VK → Prop := fun xs H Q => ∃ (C dx tp : Addr) (fs : List (Str × V)) (ds : List Addr) (b : Bool), xs = [.ref a, .ref tp] ∧ cls = .ref C ∧ d = some dx ∧ ExcK K C ∧ H dx = some (.xd fs) ∧
  SqT K H tp (ds.map V.ref) ∧ PySem.W.kitAny K (.ref C) (ds.map Value.ref) = some b ∧ Q (.bl b) H
theorem refs_vals : ∀ {ds : List Addr} {us : List Value}, Vals (ds.map V.ref) us → us = ds.map Value.ref
  | [], _, .nil => rfl
  | _ :: ds, _, .cons r t => by
    obtain rfl := r
    rw [refs_vals (ds := ds) t]
    rfl
theorem excK_kit {K : PySem.W.Frag} {C : Addr} {od : Option Obj} (T : ExcK K C) : PySem.W.KitX K (.ref a) (.ref C) (fun h => PySem.W.InstAt h a oe C od) := by
  obtain ⟨nm, q, N, bs, bm, sn, sub, ab, col, dd, k0, k1, k2, k3, k5, hC, _⟩ := T.oex.cls
  refine PySem.W.kitx_exc ?_ T.xf.ga T.xf.gg T.xf.exC T.ha T.hn T.ht T.hm
  unfold PySem.W.clsIn
  rw [hC]
  rfl
theorem excK_at {s : Shared} {pins : List (Addr × Obj)} {σ : L2.St} {H : Hp} {C dx : Addr} {fs : List (Str × V)} (I : Inv X pins σ H s) (hp : (a, oe) ∈ X.pn) (hz : Zc (.ref C) (some dx) oe) (hf : ∃ vs, oe.data = .fields vs) (hx : H dx = some (.xd fs)) :
    ∃ od, PySem.W.InstAt s.heap a oe C (some od) := by
  obtain ⟨ha, _⟩ := I.pin (a, oe) (List.mem_append_left _ hp)
  have ho : ObjOk X.prog X.w H s.heap dx (.xd fs) := I.hok dx _ hx
  obtain ⟨mA, hns, _⟩ := ho
  obtain ⟨od, hd, _⟩ := lookIn_ns hns
  obtain ⟨vs, hv⟩ := hf
  refine ⟨od, ha, hz.1, ?_, ?_⟩
  · unfold PySem.W.notCls
    rw [hv]
  · rw [hz.2]
    exact hd
theorem call_isX (hp : (a, oe) ∈ X.pn) (hz : Zc cls d oe) (hf : ∃ vs, oe.data = .fields vs) : CallR X (.builtin "isinstance") (rIsX X.K a cls d) := by
  intro pins s σ H xs us Q I r h
  obtain ⟨C, dx, fs, c, cv, b, rfl, rfl, rfl, T, hx, hcv, e, q⟩ := h
  match us, r with
  | [u, v], .cons rx (.cons rt .nil) =>
    obtain rfl : u = Value.ref a := rx
    obtain rfl := hcv _ rt
    obtain ⟨od, J⟩ := excK_at I hp hz hf hx
    exact PySem.W.kia_one (excK_kit T) I.kIn J e (fun z => nomatch z) fun tk => ⟨.bl b, H, I.kept (t' := tk) fun _ _ z => z, rfl, q⟩
theorem call_isXT (hp : (a, oe) ∈ X.pn) (hz : Zc cls d oe) (hf : ∃ vs, oe.data = .fields vs) : CallR X (.builtin "isinstance") (rIsXT X.K a cls d) := by
  intro pins s σ H xs us Q I r h
  obtain ⟨C, dx, tp, fs, ds, b, rfl, rfl, rfl, T, hx, ht, e, q⟩ := h
  match us, r with
  | [u, v], .cons rx (.cons rt .nil) =>
    obtain rfl : u = Value.ref a := rx
    obtain rfl : v = Value.ref tp := rt
    obtain ⟨od, J⟩ := excK_at I hp hz hf hx
    obtain ⟨its, rv, ⟨o, ho, hc, n, hd⟩, _⟩ := I.tuple ht
    have ei := refs_vals rv
    subst ei
    obtain ⟨oc, od2, oda, osl⟩ := o
    simp only at hc hd
    subst hc
    subst hd
    exact PySem.W.kia_tup (excK_kit T) I.kIn J ho e (fun z => nomatch z) fun tk => ⟨.bl b, H, I.kept (t' := tk) fun _ _ z => z, rfl, q⟩
/-- e.value -/
def tXv (K : PySem.W.Frag) (a : Addr) (cls : Value) (d : Option Addr) (te : TE) : TE := fun σ H Q => te σ H fun x H1 => x = .ref a ∧ ∃ (C dx : Addr) (v : V), cls = .ref C ∧ d = some dx ∧ ExcK K C ∧ H1 dx = some (.xd [(("value" : Str), v)]) ∧ Q v H1
theorem pe_xv {e : Expr} {te : TE} {pos : Pos} (hp : (a, oe) ∈ X.pn) (hz : Zc cls d oe) (hf : ∃ vs, oe.data = .fields vs) (he : PE X e te) (hb : attributeBase e "value" X.env (eval e X.env) = eval e X.env := by rfl) :
    PE X (.Attribute e "value" pos) (tXv X.K a cls d te) := by
  refine ⟨fun pins s σ H Q I h => ?_⟩
  refine attr_of hb (thn (he.run pins s σ H _ I h) fun u s1 hh => ?_)
  obtain ⟨x, H1, I1, rx, rfl, C, dx, v, rfl, rfl, T, hx, q⟩ := hh
  obtain rfl : u = Value.ref a := rx
  have ho : ObjOk X.prog X.w H1 s1.heap dx (.xd [(("value" : Str), v)]) := I1.hok dx _ hx
  obtain ⟨mA, hns, hr⟩ := ho
  obtain ⟨od, hd, hl⟩ := lookIn_ns hns
  have l : List.lookup ("value" : Str) [(("value" : Str), v)] = some v := by simp [List.lookup]
  obtain ⟨w, hw, rw'⟩ := RelO.some_of (v := v) (o := mA "value") (by rw [← l]; exact hr "value")
  obtain ⟨ha, _⟩ := I1.pin (a, oe) (List.mem_append_left _ hp)
  obtain ⟨vs, hv⟩ := hf
  have J : PySem.W.InstAt s1.heap a oe C (some od) := by
    refine ⟨ha, hz.1, ?_, ?_⟩
    · unfold PySem.W.notCls
      rw [hv]
    · rw [hz.2]
      exact hd
  exact HandSPX.exc_get I1.kIn J T.xf.ga T.xf.gg T.xf.exC (PySem.W.findObj_own T.xf.hdC T.noV rfl (by rw [hl, hw])) (handed_of rw') ⟨v, H1, I1.tok _, rw', q⟩
end
/-! ### their making -/
def sp_einit (K : PySem.W.Frag) (C : Addr) : Sp := fun vs H Q _ => ∃ (a : Addr) (v : V), vs = [.ref a, v] ∧ ExcK K C ∧ H a = some (exo a C none) ∧ ∀ dx, H dx = none → dx ≠ a → Q .non (upd (upd H dx (exd dx [(("value" : Str), v)])) a (exo a C (some dx)))
section
variable {σ : L2.St} {H : Hp} {Q : VK} {K : PySem.W.Frag} {te to : TE} {ta : TA} {nx : L2.St → Hp → Prop} {rt : VK} {bk ct : L2.St → Hp → Prop}
theorem st_veI (h : ta σ H fun vs H1 => ∃ (a C : Addr) (ws : List V), vs = .ref a :: ws ∧ ws.length ≤ 1000 ∧ OexC K C ∧ H1 a = some (exo a C none) ∧ Q .non H1) : tVeI K ta σ H Q := h
theorem st_mko {C : Addr} {sp : Sp} {dvs : List V} {R : XK} (h : ta σ H fun vs H1 => vs.length ≤ 1000 ∧ ∀ a, H1 a = none → sp (.ref a :: (vs ++ dvs)) (upd H1 a (exo a C none))
    (fun v H2 => v = .non ∧ ∃ (d : Addr) (fs : List (Str × V)), H2 a = some (exo a C (some d)) ∧ H2 d = some (exd d fs) ∧ H1 d = none ∧ R (.ref C) (some d) (upd (del H2 a) d (.xd fs))) (fun _ _ _ => False)) : tMkO C sp dvs ta σ H R := h
theorem st_mkE {C : Addr} {R : XK} {x : V} (T : ExcK K C) (q : ∀ dx, H dx = none → R (.ref C) (some dx) (upd H dx (.xd [(("value" : Str), x)]))) :
    [x].length ≤ 1000 ∧ ∀ a, H a = none → sp_einit K C (.ref a :: ([x] ++ [])) (upd H a (exo a C none))
      (fun v H2 => v = .non ∧ ∃ (d : Addr) (fs : List (Str × V)), H2 a = some (exo a C (some d)) ∧ H2 d = some (exd d fs) ∧ H d = none ∧ R (.ref C) (some d) (upd (del H2 a) d (.xd fs))) (fun _ _ _ => False) := by
  refine ⟨(by decide : 1 ≤ 1000), fun a na => ⟨a, x, rfl, T, upd_same, fun dx nd ne => ⟨rfl, dx, [(("value" : Str), x)], upd_same, ?_, ?_, ?_⟩⟩⟩
  · rw [upd_ne ne, upd_same]
  · rw [upd_ne ne] at nd
    exact nd
  · have nd2 : H dx = none := by
      rw [upd_ne ne] at nd
      exact nd
    have e : upd (del (upd (upd (upd H a (exo a C none)) dx (exd dx [(("value" : Str), x)])) a (exo a C (some dx))) a) dx (.xd [(("value" : Str), x)]) = upd H dx (.xd [(("value" : Str), x)]) := by
      funext b
      by_cases hb : b = dx
      · rw [hb, upd_same, upd_same]
      · rw [upd_ne hb, upd_ne hb]
        by_cases ha : b = a
        · rw [ha, del_same, na]
        · rw [del_ne ha, upd_ne ha, upd_ne hb, upd_ne ha]
    rw [e]
    exact q dx nd2
theorem st_ost {f : Str} (h : te σ H fun y H1 => to σ H1 fun x H2 => ∃ a C : Addr, x = .ref a ∧ OexC K C ∧ PySem.W.findIn K (.ref C) f = some none ∧
    ((H2 a = some (exo a C none) ∧ ∀ dx, H2 dx = none → dx ≠ a → nx σ (upd (upd H2 dx (exd dx [(f, y)])) a (exo a C (some dx)))) ∨
      ∃ (dx : Addr) (fs : List (Str × V)), H2 a = some (exo a C (some dx)) ∧ H2 dx = some (exd dx fs) ∧ fs.length ≤ 900 ∧ nx σ (upd H2 dx (exd dx ((f, y) :: fs))))) : tOst K f to te ⟨nx, rt, bk, ct⟩ σ H := h
theorem st_raise {t : L2.St → Hp → XK → Prop} {W : WX} {D : Ends} (h : t σ H fun cls d H' => W cls d σ H') : (fun (_ : Ends) σ H => t σ H fun cls d H' => W cls d σ H') D σ H := h
theorem st_xv {a : Addr} {cls : Value} {d : Option Addr} (h : te σ H fun x H1 => x = .ref a ∧ ∃ (C dx : Addr) (v : V), cls = .ref C ∧ d = some dx ∧ ExcK K C ∧ H1 dx = some (.xd [(("value" : Str), v)]) ∧ Q v H1) : tXv K a cls d te σ H Q := h
theorem st_isX {C a dx : Addr} {fs : List (Str × V)} {c : V} {cv : Value} {b : Bool} (T : ExcK K C) (hx : H dx = some (.xd fs)) (hc : ∀ u, RelV c u → u = cv) (e : PySem.W.kitOne K (.ref C) cv = some b) (q : Q (.bl b) H) : rIsX K a (.ref C) (some dx) [.ref a, c] H Q :=
  ⟨C, dx, fs, c, cv, b, rfl, rfl, rfl, T, hx, hc, e, q⟩
theorem rel_ref {D : Addr} : ∀ u, RelV (.ref D) u → u = Value.ref D := fun _ r => r
theorem rel_ty {n : String} : ∀ u, RelV (.ty n) u → u = Value.type n := fun _ r => r
end
section
variable {σ : L2.St} {H : Hp} {Q : VK} {ta tb : TE}
theorem st_lrg {te : L2.St → Hp → (Int → Int → Hp → Prop) → Prop} (h : te σ H fun a b H1 => RgOk a b ∧ ∀ q, H1 q = none → Q (.ref q) (upd H1 q (.lst (rgV a b)))) : tLstRg te σ H Q := h
theorem st_rg2 {R : Int → Int → Hp → Prop} (h : ta σ H fun x H1 => tb σ H1 fun y H2 => ∃ i j, x = .int i ∧ y = .int j ∧ R i j H2) : tRg2 ta tb σ H R := h
theorem st_rgE {i j : Int} {R : Int → Int → Prop} (h : R i j) : ∃ a b, V.int i = .int a ∧ V.int j = .int b ∧ R a b := ⟨i, j, rfl, rfl, h⟩
end
section
variable {σ : L2.St} {H : Hp} {Q : VK}
theorem st_callS {sp : Sp} {E : L2.St → XK} {t : TA} (h : t σ H fun vs H1 => sp vs H1 Q (E σ)) : tCallS sp E t σ H Q := h
theorem st_extend {p b : Addr} {xs ys : List V} (h : H p = some (.lst xs)) (hb : H b = some (.lst ys)) (hl : xs.length + ys.length < 100000) (q : Q .non (upd H p (.lst (xs ++ ys)))) : rExtend (.ref p) [.ref b] H Q :=
  ⟨p, b, xs, ys, rfl, rfl, h, hb, Nat.le_trans (Nat.le_of_lt hl) (by decide), q⟩
end
/-! ### the head's facts, with the table of statics (class reads look there) -/
def fragB (n : Nat) (g : Addr → Option Obj) : PySem.W.Frag := He.frG g (He.asD g n ++ [cStatics])
abbrev AlB : Type := He.AlD × Bool
def obsB (n : Nat) (fa : List He.Fa) (fn : List He.DefD) (ex : PySem.W.Frag → Bool) (g : Addr → Option Obj) : AlB := (He.obsD fa fn (fragB n g), ex (fragB n g))
structure SaysB (fa : List He.Fa) (fn : List He.DefD) (ex : PySem.W.Frag → Bool) (K : PySem.W.Frag) : Prop where
  d : He.SaysD fa fn K
  more : ex K = true
def hookB (n : Nat) (fa : List He.Fa) (fn : List He.DefD) (ex : PySem.W.Frag → Bool) : PySem.W.Hook where
  α := AlB
  obs := fun s => obsB n fa fn ex s.heap.get?
  val := fun _ => (He.valD fn, true)
  says := fun _ h => ∃ K : PySem.W.Frag, K.In h ∧ SaysB fa fn ex K
  of := fun _ _ e => ⟨_, He.frG_in, congrArg (fun z : AlB => z.1) e, congrArg (fun z : AlB => z.2) e⟩
  keeps := fun _ _ _ h k => h.elim fun K z => ⟨K, PySem.W.Frag.In.keeps z.1 k, z.2⟩
theorem obsB_eq {n : Nat} {fa : List He.Fa} {fn : List He.DefD} {ex : PySem.W.Frag → Bool} {g : Addr → Option Obj} {s : Shared} (h : ∀ a, g a = s.heap.get? a) : obsB n fa fn ex g = (hookB n fa fn ex).obs s := by
  obtain rfl : g = s.heap.get? := funext h
  rfl
end Mc
/-! numbers, lists of steps and dates read from texts -/
namespace Mc
open PySem PySem.Spec PyProof.Rows L2
/-! ### numbers in words -/
def isDig (c : Nat) : Bool := decide (48 ≤ c ∧ c ≤ 57)
def sgF : List Nat → Bool
  | [] => false
  | c :: _ => decide (c = 43) || decide (c = 45)
def cutSg (l : List Nat) : List Nat := if sgF l = true then l.drop 1 else l
def okD (ds : List Nat) : Bool := decide (1 ≤ ds.length) && (decide (ds.length ≤ 60) && ds.all isDig)
def valT (l : List Nat) : Int := if l.head? = some 45 then -((NumText.digitsVal (cutSg l) : Nat) : Int) else ((NumText.digitsVal (cutSg l) : Nat) : Int)
def numT (w : Str) : Option Int := if okD (cutSg w.cps.toList) = true then some (valT w.cps.toList) else none
def numV (o : Option Int) : V := match o with
  | some n => .int n
  | none => .non
theorem okD_all {ds : List Nat} (h : okD ds = true) : NumText.AllDigits ds ∧ ds ≠ [] ∧ ds.length ≤ 60 := by
  obtain ⟨h1, h⟩ := He.ba h
  obtain ⟨h2, h3⟩ := He.ba h
  refine ⟨fun c hc => ?_, fun z => ?_, of_decide_eq_true h2⟩
  · exact of_decide_eq_true (List.all_eq_true.mp h3 c hc)
  · rw [z] at h1
    cases h1
open NumText in
theorem intText_plus {x : Str} {cs : List Nat} (hx : x.cps.toList = 43 :: cs) (h : AllDigits cs) (h1 : cs ≠ []) (h2 : cs.length ≤ 4000) : intText? x = some ((digitsVal cs : Nat) : Int) := by
  have sm : ∀ c ∈ x.cps.toList, 43 ≤ c ∧ c ≤ 57 := fun c hc => by
    rw [hx] at hc
    rcases List.mem_cons.mp hc with e | hc
    · omega
    · have := h c hc
      omega
  have t1 : numTextOf x = x.cps.toList := if_pos (by
    rw [← Array.all_toList, List.all_eq_true]
    exact fun c hc => decide_eq_true (by have := sm c hc; omega))
  have t2 : numSeenOf x = x.cps.toList := by
    show (numTextOf x).takeWhile _ = _
    rw [t1]
    exact takeWhile_all fun c hc => bne_iff_ne.mpr (by have := sm c hc; omega)
  have c0 : core (43 :: cs) = cs := by
    unfold core
    rw [dropWhile_of (by decide)]
    show (cs.reverse.dropWhile blank).reverse = cs
    rw [dropWhile_digits h.reverse, List.reverse_reverse]
  have s0 : sign ((43 :: cs).dropWhile blank) = (false, cs) := by
    rw [dropWhile_of (by decide)]
    rfl
  have z := push_size cs #[]
  have v := push_foldl cs #[]
  unfold intText?
  rw [t1, t2, if_pos (beq_self_eq_true _), hx, c0, s0, digits_of h h1]
  show (if _ ≤ 4300 then some (worth false _) else none) = _
  rw [if_pos (by rw [z]; simp only [Array.size_empty]; omega)]
  unfold worth digitsVal
  rw [v]
  rfl
theorem int_numT {w : Str} (h : okD (cutSg w.cps.toList) = true) : intText? w = some (valT w.cps.toList) := by
  obtain ⟨h1, h2, h3⟩ := okD_all h
  have wl : w.cps.toList.length = w.length := Array.length_toList
  generalize hl : w.cps.toList = l at *
  match l, hl with
  | [], hl => exact absurd rfl h2
  | c :: cs, hl =>
    by_cases e1 : c = 43
    · subst e1
      exact intText_plus hl h1 h2 (by have : (cutSg (43 :: cs)).length = cs.length := rfl; omega)
    · by_cases e2 : c = 45
      · subst e2
        exact intText_neg hl h1 h2 (by have : (cutSg (45 :: cs)).length = cs.length := rfl; rw [List.length_cons] at wl; omega)
      · have e3 : cutSg (c :: cs) = c :: cs := by
          unfold cutSg
          rw [if_neg]
          show ¬ (decide (c = 43) || decide (c = 45)) = true
          rw [decide_eq_false e1, decide_eq_false e2]
          decide
        have e4 : valT (c :: cs) = ((NumText.digitsVal (c :: cs) : Nat) : Int) := by
          unfold valT
          rw [e3, if_neg (by simpa using e2)]
        rw [e3] at h1 h2 h3
        rw [e4, ← hl]
        exact intText_digits (by rw [hl]; exact h1) (by rw [hl]; exact h2) (by omega)
/-! ### the texts of numbers -/
theorem cps_iT (k : Int) : (iT k).cps.toList = if k < 0 then 45 :: TL.numL k.natAbs else TL.numL k.natAbs := by
  cases k with
  | ofNat n =>
    rw [if_neg (show ¬ Int.ofNat n < 0 from Int.not_lt.mpr (Int.natCast_nonneg n))]
    exact TL.tl_num n
  | negSucc m =>
    rw [if_pos (by omega)]
    show (Str.ofString ("-" ++ toString ((m + 1 : Nat) : Int))).cps.toList = _
    rw [signs_ofString, String.toList_append, List.map_append, ← signs_ofString (toString ((m + 1 : Nat) : Int)), show (Str.ofString (toString ((m + 1 : Nat) : Int))).cps.toList = TL.numL (m + 1) from TL.tl_num (m + 1)]
    rfl
theorem cps_stT (k : Int) : (stT k).cps.toList = if 0 < k then 43 :: TL.numL k.natAbs else (iT k).cps.toList := by
  unfold stT
  split
  · rename_i h
    rw [PySem.Str.cps_append, Array.toList_append, cps_iT, if_neg (by omega)]
    rfl
  · rfl
theorem okD_num {k : Int} (h : k.natAbs < 10 ^ 60) : okD (TL.numL k.natAbs) = true := by
  have h1 := TL.numL_len (n := k.natAbs) (k := 60) (by decide) h
  have h2 := TL.numL_ne k.natAbs
  have h3 := TL.numL_digits k.natAbs
  unfold okD
  rw [decide_eq_true (by have := List.length_pos_iff.mpr h2; omega), decide_eq_true h1, Bool.true_and, Bool.true_and]
  exact List.all_eq_true.mpr fun c hc => decide_eq_true (h3 c hc)
theorem sg_num (n : Nat) : sgF (TL.numL n) = false := by
  have h := TL.numL_digits n
  match TL.numL n, h with
  | [], _ => rfl
  | c :: l, h =>
    have := h c (List.mem_cons_self ..)
    show (decide (c = 43) || decide (c = 45)) = false
    rw [decide_eq_false (by omega), decide_eq_false (by omega)]
    rfl
theorem cut_num (n : Nat) : cutSg (TL.numL n) = TL.numL n := by
  unfold cutSg
  rw [sg_num, if_neg Bool.false_ne_true]
theorem val_num (n : Nat) : valT (TL.numL n) = (n : Int) := by
  unfold valT
  rw [cut_num, TL.numL_val, if_neg]
  intro z
  have h := sg_num n
  match TL.numL n, z, h with
  | _ :: l, z, h =>
    cases z
    cases h
theorem numT_iT {k : Int} (h : k.natAbs < 10 ^ 60) : numT (iT k) = some k := by
  unfold numT
  rw [cps_iT]
  by_cases hk : k < 0
  · rw [if_pos hk]
    have e : cutSg (45 :: TL.numL k.natAbs) = TL.numL k.natAbs := rfl
    have v : valT (45 :: TL.numL k.natAbs) = -((NumText.digitsVal (TL.numL k.natAbs) : Nat) : Int) := rfl
    rw [e, okD_num h, if_pos rfl, v, TL.numL_val]
    exact congrArg some (by omega)
  · rw [if_neg hk, cut_num, okD_num h, if_pos rfl, val_num]
    exact congrArg some (by omega)
theorem numT_stT {k : Int} (h : k.natAbs < 10 ^ 60) : numT (stT k) = some k := by
  by_cases hk : 0 < k
  · unfold numT
    rw [cps_stT, if_pos hk]
    have e : cutSg (43 :: TL.numL k.natAbs) = TL.numL k.natAbs := rfl
    have v : valT (43 :: TL.numL k.natAbs) = ((NumText.digitsVal (TL.numL k.natAbs) : Nat) : Int) := rfl
    rw [e, okD_num h, if_pos rfl, v, TL.numL_val]
    exact congrArg some (by omega)
  · have e : stT k = iT k := if_neg hk
    rw [e]
    exact numT_iT h
/-- a sign that no digit is and no sign of a number -/
theorem free_stT {k : Int} {s : Nat} (h : s < 43 ∨ 57 < s) : s ∉ (stT k).cps.toList := by
  have hn : s ∉ TL.numL k.natAbs := TL.numL_free (by omega)
  rw [cps_stT]
  split
  · intro z
    rcases List.mem_cons.mp z with e | z
    · omega
    · exact hn z
  · rw [cps_iT]
    split
    · intro z
      rcases List.mem_cons.mp z with e | z
      · omega
      · exact hn z
    · exact hn
theorem ne_stT (k : Int) : (stT k).cps.toList ≠ [] := by
  have hn := TL.numL_ne k.natAbs
  rw [cps_stT]
  split
  · simp
  · rw [cps_iT]
    split
    · simp
    · exact hn
/-- a row of steps, cut at its spaces -/
theorem split_row {ns : List Int} (h : ns ≠ []) : Txt.split (Txt.join " " (ns.map stT)) " " = ns.map stT :=
  TL.split_join (s := 32) (S := []) (by decide +kernel) (by decide +kernel) (fun z => h (List.map_eq_nil_iff.mp z)) fun p hp => by
    obtain ⟨k, _, rfl⟩ := List.mem_map.mp hp
    exact free_stT (.inl (by decide))
/-- no row of steps is 'none' -/
theorem row_none {ns : List Int} (h : ns ≠ []) : Txt.join " " (ns.map stT) ≠ ("none" : Str) := fun z => by
  have e := split_row h
  rw [z, show Txt.split ("none" : Str) " " = [("none" : Str)] by decide +kernel] at e
  match ns, h, e with
  | k :: ms, _, e =>
    rw [List.map_cons] at e
    have e1 : ("none" : Str) = stT k := (List.cons.inj e).1
    have e2 : (110 : Nat) ∈ (stT k).cps.toList := by
      rw [← e1]
      decide +kernel
    exact free_stT (.inr (by decide)) e2
/-! ### readings -/
theorem cps_tail {z : Str} : (cutS z (some 1) none).cps.toList = z.cps.toList.drop 1 := by
  have e : z.cps.toList.length = z.length := Array.length_toList
  unfold cutS
  rw [show ((1 : Int)) = ((1 : Nat) : Int) from rfl, HT.sIx_nat, HT.sIx_none]
  show (z.cps.toList.drop (min 1 z.length)).take (z.length - min 1 z.length) = _
  rw [← e]
  match z.cps.toList with
  | [] => rfl
  | c :: l =>
    rw [Nat.min_eq_left (by rw [List.length_cons]; omega)]
    exact List.take_of_length_le (by rw [List.length_drop]; exact Nat.le_refl _)
theorem cps_head {z : Str} : (cutS z none (some 1)).cps.toList = z.cps.toList.take 1 := by
  have e : z.cps.toList.length = z.length := Array.length_toList
  unfold cutS
  rw [show ((1 : Int)) = ((1 : Nat) : Int) from rfl, HT.sIx_nat, HT.sIx_none]
  show (z.cps.toList.drop 0).take (min 1 z.length - 0) = _
  rw [← e]
  match z.cps.toList with
  | [] => rfl
  | c :: l =>
    rw [Nat.min_eq_left (by rw [List.length_cons]; omega)]
    rfl
theorem str_eq {a b : Str} (h : a.cps.toList = b.cps.toList) : a = b := by
  obtain ⟨⟨l⟩⟩ := a
  obtain ⟨⟨m⟩⟩ := b
  exact congrArg (fun l => Str.mk ⟨l⟩) h
theorem in_sg {w : Str} : inV (.str (cutS w none (some 1))) [.str "+", .str "-"] = sgF w.cps.toList := by
  have h := cps_head (z := w)
  generalize cutS w none (some 1) = a at h
  have e1 : (a = ("+" : Str)) ↔ w.cps.toList.head? = some 43 := by
    constructor
    · intro e
      rw [e] at h
      have h2 : [43] = w.cps.toList.take 1 := h
      match w.cps.toList, h2 with
      | c :: l, h2 =>
        cases h2
        rfl
    · intro e
      refine str_eq ?_
      rw [h]
      match w.cps.toList, e with
      | c :: l, e =>
        cases e
        rfl
  have e2 : (a = ("-" : Str)) ↔ w.cps.toList.head? = some 45 := by
    constructor
    · intro e
      rw [e] at h
      have h2 : [45] = w.cps.toList.take 1 := h
      match w.cps.toList, h2 with
      | c :: l, h2 =>
        cases h2
        rfl
    · intro e
      refine str_eq ?_
      rw [h]
      match w.cps.toList, e with
      | c :: l, e =>
        cases e
        rfl
  have e3 : sgF w.cps.toList = (decide (w.cps.toList.head? = some 43) || decide (w.cps.toList.head? = some 45)) := by
    match w.cps.toList with
    | [] => rfl
    | c :: l => simp [sgF]
  rw [e3]
  simp only [inV, List.any_cons, List.any_nil, Bool.or_false]
  have key : ∀ (b : Str) (n : Nat), ((a = b) ↔ w.cps.toList.head? = some n) → eqV (.str b) (.str a) = decide (w.cps.toList.head? = some n) := fun b n e => by
    show (b == a) = _
    by_cases c : w.cps.toList.head? = some n
    · rw [e.mpr c, decide_eq_true c]
      exact beq_self_eq_true _
    · rw [decide_eq_false c]
      exact beq_eq_false_iff_ne.mpr fun z => c (e.mp z.symm)
  rw [key _ _ e1, key _ _ e2]
section
variable {X : Cx} {σ : L2.St} {H : Hp} {Q : VK} {K : PySem.W.Frag}
theorem st_slS {z : Str} {lo hi : Option Int} (hz : z.length ≤ 100000) (q : Q (.str (cutS z lo hi)) H) : rSlS (.str z) lo hi H Q := ⟨z, rfl, Nat.le_trans hz (by decide), q⟩
/-- len(text) -/
def rLenTx : List V → Hp → VK → Prop := fun xs H Q => ∃ z, xs = [.str z] ∧ z.length ≤ sizeLine ∧ Q (.int z.length) H
theorem call_lenTx : CallR X (.builtin "len") rLenTx := call_len_str
theorem st_lenTx {z : Str} (hz : z.length ≤ 100000) (q : Q (.int z.length) H) : rLenTx [.str z] H Q := ⟨z, rfl, Nat.le_trans hz (by decide), q⟩
/-- sign in text -/
def rInC : V → V → Hp → VK → Prop := fun x y H Q => ∃ (c : Nat) (z : Str), x = .str ⟨#[c]⟩ ∧ y = .str z ∧ Q (.bl (decide (c ∈ z.cps.toList))) H
theorem op_inC : OpR X (compareOp .In) rInC := op_in_sign
theorem st_inC {c : Nat} {z : Str} (q : Q (.bl (decide (c ∈ z.cps.toList))) H) : rInC (.str ⟨#[c]⟩) (.str z) H Q := ⟨c, z, rfl, rfl, q⟩
/-- int(text) -/
def rIntT : List V → Hp → VK → Prop := fun xs H Q => ∃ a n, xs = [.str a] ∧ PySem.intText? a = some n ∧ a.length ≤ 640 ∧ Q (.int n) H
theorem call_intT : CallR X (.type "int") rIntT := call_int_str
theorem st_intT {w : Str} (h : okD (cutSg w.cps.toList) = true) (q : Q (.int (valT w.cps.toList)) H) : rIntT [.str w] H Q := by
  refine ⟨w, _, rfl, int_numT h, ?_, q⟩
  obtain ⟨_, _, h3⟩ := okD_all h
  have e : w.cps.toList.length = w.length := Array.length_toList
  have e2 : w.cps.toList.length ≤ (cutSg w.cps.toList).length + 1 := by
    unfold cutSg
    split
    · rw [List.length_drop]
      omega
    · omega
  omega
theorem st_itS {te : TE} {R : It → Hp → Prop} (h : te σ H fun v H1 => ∃ x, v = .str x ∧ R (Its x) H1) : iStr te σ H R := h
theorem st_itS1 {x : Str} {R : Str → Prop} (h : R x) : ∃ y, V.str x = .str y ∧ R y := ⟨x, rfl, h⟩
/-- [f(sign) for sign in text if p(sign)] -/
theorem lcS {D : Addr} {x : Str} {g : TG} {tt : TT} {te : TE} {vs : List Nat} {Qd : Hp → Prop} (p : Nat → Bool) (f : Nat → V) (n : H D = none) (hl : x.length ≤ 100000)
    (step : ∀ (c : Nat) (H' : Hp) (R : VK) (RF : Hp → Prop), c ∈ x.cps.toList → Same H H' → (p c = true → ∀ H4, Same H' H4 → R (f c) H4) → (p c = false → ∀ H4, Same H' H4 → RF H4) →
      g (.str ⟨#[c]⟩) (wipe σ vs) H' fun σ2 H2 => wipe σ2 vs = wipe σ vs ∧ tt σ2 H2 fun b H3 => if b = true then te σ2 H3 R else RF H3)
    (q : ∀ H', Same H H' → H' D = some (.lst ((x.cps.toList.filter p).map f)) → Qd H') :
    ∃ W : Nat → Nat → Hp → Prop, (∃ m, W 0 m (upd H D (.lst []))) ∧ ∀ i m H, W i m H →
      ((Its x).stop i H ∧ Qd H) ∨ ((Its x).go i H ∧ ∃ Nx : Hp → Prop, (∀ H', Nx H' → ∃ m', m' < m ∧ W (i + 1) m' H') ∧ ∀ y H', (Its x).yld i H y H' → g y (wipe σ vs) H' fun σ2 H2 => wipe σ2 vs = wipe σ vs ∧ tt σ2 H2 fun b H3 =>
        if b = true then te σ2 H3 fun y H4 => ∃ acc, H4 D = some (.lst acc) ∧ acc.length < sizeLine ∧ Nx (upd H4 D (.lst (acc ++ [y]))) else Nx H3) := by
  have xl : x.cps.toList.length = x.cps.size := Array.length_toList
  have xs : x.cps.size = x.length := rfl
  refine ⟨fun i m H' => m = x.cps.size - i ∧ i ≤ x.cps.size ∧ Same H H' ∧ H' D = some (.lst (((x.cps.toList.take i).filter p).map f)), ⟨_, rfl, Nat.zero_le _, Same.new n, upd_same⟩, ?_⟩
  rintro i m H1 ⟨rfl, hi, sm, hD⟩
  by_cases c : i < x.cps.size
  · refine .inr ⟨c, fun H' => Same H H' ∧ H' D = some (.lst (((x.cps.toList.take (i + 1)).filter p).map f)), fun H' h => ⟨_, Nat.sub_succ_lt_self _ _ c, rfl, c, h⟩, ?_⟩
    rintro y H' ⟨rfl, k, hk, rfl⟩
    have gk : x.cps.toList[i]? = some k := by rw [Array.getElem?_toList]; exact hk
    refine step k H' _ _ (List.mem_of_getElem? gk) sm (fun hp H4 s4 => ?_) (fun hp H4 s4 => ?_)
    · refine ⟨_, s4 _ _ hD, len_lt ?_, same_trU n (same_tr s4 sm), ?_⟩
      · have l1 := List.length_filter_le p (x.cps.toList.take i)
        rw [List.length_map]
        rw [List.length_take] at l1
        omega
      · rw [upd_same, List.take_add_one, gk, List.filter_append]
        simp [hp]
    · refine ⟨same_tr s4 sm, ?_⟩
      rw [s4 _ _ hD, List.take_add_one, gk, List.filter_append]
      simp [hp]
  · obtain rfl : i = x.cps.size := by omega
    refine .inl ⟨Nat.le_refl _, q H1 sm ?_⟩
    rw [hD, List.take_of_length_le (by omega)]
theorem st_all {a : Addr} {bs : List Bool} (h : SqL K H a (bs.map V.bl)) (q : Q (.bl (bs.all id)) H) : rAll K [.ref a] H Q := ⟨a, bs, rfl, h, q⟩
theorem dig_in (c : Nat) : decide (c ∈ ("0123456789" : Str).cps.toList) = isDig c := by
  have e : ("0123456789" : Str).cps.toList = [48, 49, 50, 51, 52, 53, 54, 55, 56, 57] := by decide +kernel
  rw [e]
  unfold isDig
  by_cases h : 48 ≤ c ∧ c ≤ 57
  · rw [decide_eq_true h]
    refine decide_eq_true ?_
    simp only [List.mem_cons, List.not_mem_nil, or_false]
    omega
  · rw [decide_eq_false h]
    refine decide_eq_false ?_
    simp only [List.mem_cons, List.not_mem_nil, or_false]
    omega
end
theorem joinL_len (s : List Nat) : ∀ ps : List (List Nat), (TL.joinL s ps).length ≤ (ps.map (·.length)).sum + ps.length * s.length
  | [] => by simp [TL.joinL]
  | [p] => by simp [TL.joinL]
  | p :: z :: r => by
    have ih := joinL_len s (z :: r)
    show (p ++ (s ++ TL.joinL s (z :: r))).length ≤ _
    rw [List.length_append, List.length_append, List.map_cons, List.sum_cons, List.length_cons, Nat.succ_mul]
    omega
theorem join_len (y : Str) (ps : List Str) : (Txt.join y ps).length ≤ (ps.map (·.length)).sum + ps.length * y.length := by
  have h := joinL_len (TL.tl y) (ps.map TL.tl)
  rw [← TL.tl_join, List.map_map, List.length_map] at h
  rw [TL.join_eq]
  exact h
theorem row_len {ns : List Int} (h : ∀ k ∈ ns, k.natAbs < 2 ^ 200) : (rowT ns).length ≤ 203 * ns.length + 4 := by
  unfold rowT
  split
  · exact Nat.le_add_left _ _
  · have a := row_fits h
    have b := join_len " " (ns.map stT)
    rw [List.length_map, show (Str.ofString " ").length = 1 from rfl] at b
    omega
theorem in_non : ∀ ns : List Int, inV .non (ns.map V.int) = false
  | [] => rfl
  | n :: ns => by
    have h := in_non ns
    simp only [inV] at h ⊢
    rw [List.map_cons, List.any_cons, h]
    rfl
section
variable {σ : L2.St} {H : Hp} {Q : VK} {to te : TE}
theorem st_m1 {r : V → List V → Hp → VK → Prop} (h : to σ H fun x H1 => (∃ a, x = .str a) ∧ te σ H1 fun y H2 => r x [y] H2 Q) : tM1 r to te σ H Q := h
theorem st_split {a b : Str} (hb : (b.length == 0) = false) (hl : a.length ≤ 10000000) (q : ∀ p, H p = none → Q (.ref p) (upd H p (.lst ((Txt.split a b).map V.str)))) :
    ∃ x y, V.str a = .str x ∧ [V.str b] = [.str y] ∧ (y.length == 0) = false ∧ x.length + 2 ≤ sizeLine ∧ rNewStrs (Txt.split x y) H Q := ⟨a, b, rfl, rfl, hb, Nat.le_trans (Nat.add_le_add_right hl 2) (by decide), q⟩
end
theorem big_60 {k : Int} (h : k.natAbs < 10 ^ 60) : k.natAbs < 2 ^ 200 := Nat.lt_of_lt_of_le h (by decide)
theorem un65 {k : Nat} {A : Around} (hr : Room k A) : A.units + 65 < cLine := by
  have z := hr.un
  omega
end Mc
/-! A run that is proved from a state whose sleeping generators cannot be woken is a run from the real state, and these generators stay as they are. -/
namespace Mf
open PySem
open Sem (wp)
variable {M : Model}
theorem no_run0 {Γ : Ctx} {p : Pos} {x : String} {s s' : Shared} {e : End} : ¬ Runs M Γ p (.unsupported x) [] s e s' := fun h => by cases h
theorem no_run {Γ : Ctx} {p : Pos} {x : String} {fs : List Frame} {s s' : Shared} {e : End} : ¬ Runs M Γ p (.unsupported x) fs s e s' := fun h => by
  cases h with
  | segRet a _ => exact no_run0 a
  | segGen a _ => exact no_run0 a
  | segSuspOut _ a => exact no_run0 a
  | segSuspGen _ a _ _ => exact no_run0 a
/-- the same, but it cannot be woken -/
def dm : GenState → GenState
  | .suspended _ l c p fs cl => .suspended (fun _ => .unsupported "") l c p fs cl
  | x => x
def isS : GenState → Bool
  | .suspended .. => true
  | _ => false
theorem dm_seen (x : GenState) : (dm x).seen = x.seen := by cases x <;> rfl
theorem dm_bare (x : GenState) : (dm x).bare = x.bare := by cases x <;> rfl
/-- the real state: D tells the generators that sleep -/
def mg (D : Nat → Option GenState) (s : Shared) : Shared := { s with gens := s.gens.mapIdx fun i x => (D i).getD x }
structure Fits (D : Nat → Option GenState) (s : Shared) : Prop where
  at_ : ∀ i st, D i = some st → isS st = true ∧ s.gens[i]? = some (dm st)
  pr : ∀ i k l c p fr cl, D i = none → s.gens[i]? = some (.suspended k l c p fr cl) → splitAtGen fr = none
def okE : End → Prop
  | .susp _ _ _ _ _ _ fs => splitAtGen fs = none
  | _ => True
section
variable {D : Nat → Option GenState} {s : Shared}
theorem mg_get (i : Nat) : (mg D s).gens[i]? = (s.gens[i]?).map fun x => (D i).getD x := by simp [mg]
theorem mg_size : (mg D s).gens.size = s.gens.size := by simp [mg]
theorem ext_gens {a b : Shared} (h1 : a.heap = b.heap) (h2 : a.drawn = b.drawn) (h3 : a.toks = b.toks) (h4 : a.os = b.os) (h : ∀ i : Nat, a.gens[i]? = b.gens[i]?) : a = b := by
  obtain ⟨a1, a2, a3, a4, a5⟩ := a
  obtain ⟨b1, b2, b3, b4, b5⟩ := b
  obtain rfl : a1 = b1 := h1
  obtain rfl : a3 = b3 := h2
  obtain rfl : a4 = b4 := h3
  obtain rfl : a5 = b5 := h4
  obtain rfl : a2 = b2 := Array.ext_getElem? h
  rfl
theorem get_setGen (g i : Nat) (x : GenState) : (s.setGen g x).gens[i]? = if g = i then (if g < s.gens.size then some x else none) else s.gens[i]? := by
  show (s.gens.setIfInBounds g x)[i]? = _
  rw [Array.getElem?_setIfInBounds]
theorem mg_setGen {g : Nat} {x : GenState} (h : D g = none) : mg D (s.setGen g x) = (mg D s).setGen g x := by
  refine ext_gens rfl rfl rfl rfl fun i => ?_
  rw [mg_get, get_setGen, get_setGen, mg_size, mg_get]
  by_cases e : g = i
  · subst e
    rw [if_pos rfl, if_pos rfl, h]
    by_cases l : g < s.gens.size
    · rw [if_pos l]
      rfl
    · rw [if_neg l]
      rfl
  · rw [if_neg e, if_neg e]
theorem Fits.lt (F : Fits D s) {i : Nat} {st : GenState} (h : D i = some st) : i < s.gens.size := (Array.getElem?_eq_some_iff.mp (F.at_ i st h).2).1
theorem Fits.new (F : Fits D s) : D s.gens.size = none := by
  cases h : D s.gens.size with
  | none => rfl
  | some st => exact absurd (F.lt h) (Nat.lt_irrefl _)
theorem mg_push (F : Fits D s) {x : GenState} : mg D { s with gens := s.gens.push x } = { mg D s with gens := (mg D s).gens.push x } := by
  refine ext_gens rfl rfl rfl rfl fun i => ?_
  rw [mg_get]
  show ((s.gens.push x)[i]?).map _ = ((mg D s).gens.push x)[i]?
  rw [Array.getElem?_push, Array.getElem?_push, mg_size, mg_get]
  by_cases e : i = s.gens.size
  · rw [if_pos e, if_pos e, e, F.new]
    rfl
  · rw [if_neg e, if_neg e]
theorem Fits.push (F : Fits D s) {c : Code} : Fits D { s with gens := s.gens.push (.fresh c) } := by
  refine ⟨fun i st h => ⟨(F.at_ i st h).1, ?_⟩, fun i k l c' p fr cl h e => ?_⟩
  · show (s.gens.push _)[i]? = _
    rw [Array.getElem?_push, if_neg (Nat.ne_of_lt (F.lt h))]
    exact (F.at_ i st h).2
  · have e' : (s.gens.push (.fresh c))[i]? = some (.suspended k l c' p fr cl) := e
    rw [Array.getElem?_push] at e'
    by_cases z : i = s.gens.size
    · rw [if_pos z] at e'
      cases e'
    · rw [if_neg z] at e'
      exact F.pr i k l c' p fr cl h e'
theorem Fits.set (F : Fits D s) {g : Nat} {x : GenState} (h : D g = none) (hx : ∀ k l c p fr cl, x = .suspended k l c p fr cl → splitAtGen fr = none) : Fits D (s.setGen g x) := by
  refine ⟨fun i st e => ⟨(F.at_ i st e).1, ?_⟩, fun i k l c p fr cl e e' => ?_⟩
  · have ne : g ≠ i := fun z => by rw [z, e] at h; cases h
    rw [get_setGen, if_neg ne]
    exact (F.at_ i st e).2
  · rw [get_setGen] at e'
    by_cases z : g = i
    · rw [if_pos z] at e'
      split at e'
      · exact hx k l c p fr cl (Option.some.inj e')
      · cases e'
    · rw [if_neg z] at e'
      exact F.pr i k l c p fr cl e e'
theorem Fits.free (F : Fits D s) {g : Nat} {x : GenState} (h : s.gens[g]? = some x) (hx : isS x = false) : D g = none := by
  cases e : D g with
  | none => rfl
  | some st =>
    obtain ⟨a, b⟩ := F.at_ g st e
    rw [h] at b
    cases b
    cases st <;> simp_all [isS, dm]
theorem Fits.real (F : Fits D s) {g : Nat} {x : GenState} (h : s.gens[g]? = some x) (hd : D g = none) : (mg D s).gens[g]? = some x := by
  rw [mg_get, h, hd]
  rfl
theorem okE.gs {e : End} (h : okE e) : ∀ k l c p fr cl, e.genState = .suspended k l c p fr cl → splitAtGen fr = none := by
  intro k l c p fr cl q
  cases e with
  | ret r => cases q
  | susp v g l' k' c' p' fs =>
    cases q
    exact h
theorem split_app {a b : List Frame} (h : splitAtGen a = none) (h' : splitAtGen b = none) : splitAtGen (a ++ b) = none := by
  rw [splitAtGen_append_none b h, h']
  rfl
theorem split_tail {k : Result → Sem PySem.Fin} {h : Option Value} {g : Bool} {l : List Value} {c : Code} {p : Pos} {kp : List Value} {fs : List Frame} (e : splitAtGen (.ret k h g l c p kp :: fs) = none) : splitAtGen fs = none := by
  have e' : (splitAtGen fs).map _ = none := e
  cases q : splitAtGen fs with
  | none => rfl
  | some x =>
    rw [q] at e'
    cases e'
end
theorem runs_frame {D : Nat → Option GenState} {Γ : Ctx} {p : Pos} {t : Sem PySem.Fin} {fs : List Frame} {s s' : Shared} {e : End} (h : Runs M Γ p t fs s e s') :
    Fits D s → splitAtGen fs = none → Runs M Γ p t fs (mg D s) e (mg D s') ∧ Fits D s' ∧ okE e := by
  induction h with
  | done => exact fun F _ => ⟨.done, F, trivial⟩
  | raise => exact fun F _ => ⟨.raise, F, trivial⟩
  | again hq _ ih => exact fun F n => let ⟨a, b⟩ := ih F rfl; ⟨.again hq a, b⟩
  | rule _ ih => exact fun F n => let ⟨a, b⟩ := ih F rfl; ⟨.rule a, b⟩
  | «at» _ ih => exact fun F n => let ⟨a, b⟩ := ih F rfl; ⟨.at a, b⟩
  | load ho _ ih => exact fun F n => let ⟨a, b⟩ := ih F rfl; ⟨.load ho a, b⟩
  | update ho _ ih => exact fun F n => let ⟨a, b⟩ := ih ⟨F.at_, F.pr⟩ rfl; ⟨.update ho a, b⟩
  | loadIfAlive _ ih => exact fun F n => let ⟨a, b⟩ := ih F rfl; ⟨.loadIfAlive a, b⟩
  | point _ ih => exact fun F n => let ⟨a, b⟩ := ih F rfl; ⟨.point a, b⟩
  | alloc _ ih => exact fun F n => let ⟨a, b⟩ := ih ⟨F.at_, F.pr⟩ rfl; ⟨.alloc a, b⟩
  | fresh _ ih => exact fun F n => let ⟨a, b⟩ := ih ⟨F.at_, F.pr⟩ rfl; ⟨.fresh a, b⟩
  | ask _ ih => exact fun F n => let ⟨a, b⟩ := ih F rfl; ⟨.ask a, b⟩
  | choose hn _ ih => exact fun F n => let ⟨a, b⟩ := ih ⟨F.at_, F.pr⟩ rfl; ⟨.choose hn a, b⟩
  | os _ ih => exact fun F n => let ⟨a, b⟩ := ih ⟨F.at_, F.pr⟩ rfl; ⟨.os a, b⟩
  | handled _ ih => exact fun F n => let ⟨a, b⟩ := ih F rfl; ⟨.handled a, b⟩
  | genState hg _ ih =>
    rename_i g _ _ _ _ _ _ _
    intro F n
    obtain ⟨a, b⟩ := ih F rfl
    refine ⟨?_, b⟩
    cases hd : D _ with
    | none => exact .genState (F.real hg hd) a
    | some x =>
      have z := (F.at_ _ x hd).2
      rw [hg] at z
      cases z
      rw [dm_seen] at a
      exact .genState (by rw [mg_get, hg, hd]; rfl) a
  | stack _ ih => exact fun F n => let ⟨a, b⟩ := ih F rfl; ⟨.stack a, b⟩
  | thread _ ih => exact fun F n => let ⟨a, b⟩ := ih F rfl; ⟨.thread a, b⟩
  | newGen _ ih =>
    intro F n
    obtain ⟨a, b⟩ := ih F.push rfl
    rw [mg_push F] at a
    refine ⟨.newGen ?_, b⟩
    rw [mg_size]
    exact a
  | call _ _ ih1 ih2 =>
    intro F n
    obtain ⟨a, b, _⟩ := ih1 F rfl
    obtain ⟨a', b'⟩ := ih2 b rfl
    exact ⟨.call a a', b'⟩
  | callSusp _ ih =>
    intro F n
    obtain ⟨a, b, c⟩ := ih F rfl
    exact ⟨.callSusp a, b, split_app c rfl⟩
  | yield => exact fun F _ => ⟨.yield, F, rfl⟩
  | resumeFresh hg _ hq _ ih1 ih2 =>
    intro F n
    have hd := F.free hg rfl
    obtain ⟨a, b, c⟩ := ih1 (F.set hd fun _ _ _ _ _ _ z => by cases z) rfl
    rw [mg_setGen hd] at a
    obtain ⟨a', b'⟩ := ih2 (b.set hd c.gs) rfl
    rw [mg_setGen hd] at a'
    exact ⟨.resumeFresh (F.real hg hd) a hq a', b'⟩
  | @resumeSuspended Γ p g r l k s k₀ l₀ c₀ p₀ fs cl e₁ s₁ e s' hg hr hq _ ih1 ih2 =>
    intro F n
    cases hd : D g with
    | some x =>
      obtain ⟨y, z⟩ := F.at_ g x hd
      rw [hg] at z
      cases x with
      | suspended k1 l1 c1 p1 f1 cl1 =>
        cases z
        exact (no_run hr).elim
      | _ => cases y
    | none =>
      obtain ⟨a, b, c⟩ := ih1 (F.set hd fun _ _ _ _ _ _ z => by cases z) (F.pr _ _ _ _ _ _ _ hd hg)
      rw [mg_setGen hd] at a
      obtain ⟨a', b'⟩ := ih2 (b.set hd c.gs) rfl
      rw [mg_setGen hd] at a'
      exact ⟨.resumeSuspended (F.real hg hd) a hq a', b'⟩
  | resumeJustStarted hg hv _ ih =>
    intro F n
    obtain ⟨a, b⟩ := ih F rfl
    exact ⟨.resumeJustStarted (F.real hg (F.free hg rfl)) hv a, b⟩
  | resumeThrowFresh hg _ ih =>
    intro F n
    have hd := F.free hg rfl
    obtain ⟨a, b⟩ := ih (F.set hd fun _ _ _ _ _ _ z => by cases z) rfl
    rw [mg_setGen hd] at a
    exact ⟨.resumeThrowFresh (F.real hg hd) a, b⟩
  | resumeRunning hg _ ih =>
    intro F n
    obtain ⟨a, b⟩ := ih F rfl
    exact ⟨.resumeRunning (F.real hg (F.free hg rfl)) a, b⟩
  | resumeFinished hg _ ih =>
    intro F n
    obtain ⟨a, b⟩ := ih F rfl
    exact ⟨.resumeFinished (F.real hg (F.free hg rfl)) a, b⟩
  | segRet _ _ ih1 ih2 =>
    intro F n
    obtain ⟨a, b, _⟩ := ih1 F rfl
    obtain ⟨a', b'⟩ := ih2 b (split_tail n)
    exact ⟨.segRet a a', b'⟩
  | segGen _ _ _ _ => exact fun F n => nomatch n
  | segSuspOut hn _ ih =>
    intro F n
    obtain ⟨a, b, c⟩ := ih F rfl
    exact ⟨.segSuspOut hn a, b, split_app c n⟩
  | segSuspGen hs _ _ _ _ _ =>
    intro F n
    rw [n] at hs
    cases hs
end Mf
/-! .. for trees, and for the hand layer's judgements. -/
namespace Mf
open PySem
open Sem (wp)
variable {M : Model}
theorem wakes_frame {D : Nat → Option GenState} {Γ : Ctx} {p : Pos} {g : Nat} {r : Resume} {s s' : Shared} {res : GenResult} (h : Wakes M Γ p g r s res s') (F : Fits D s) : Wakes M Γ p g r (mg D s) res (mg D s') ∧ Fits D s' := by
  unfold Wakes at h ⊢
  cases hg : s.gens[g]? with
  | none =>
    rw [hg] at h
    exact h.elim
  | some x =>
    rw [hg] at h
    cases hd : D g with
    | some y =>
      obtain ⟨a, b⟩ := F.at_ g y hd
      rw [hg] at b
      cases y with
      | suspended k1 l1 c1 p1 f1 cl1 =>
        cases b
        obtain ⟨_, _, hr, _⟩ := h
        exact (no_run hr).elim
      | _ => cases a
    | none =>
      rw [F.real hg hd]
      cases x with
      | fresh c =>
        cases r with
        | throw x =>
          obtain ⟨rfl, rfl⟩ := h
          exact ⟨⟨rfl, mg_setGen hd⟩, F.set hd fun _ _ _ _ _ _ z => by cases z⟩
        | send v =>
          cases v with
          | none =>
            obtain ⟨e₁, s₁, hr, hq, rfl, rfl⟩ := h
            obtain ⟨a, b, c'⟩ := runs_frame hr (F.set hd fun _ _ _ _ _ _ z => by cases z) rfl
            rw [mg_setGen hd] at a
            exact ⟨⟨e₁, _, a, hq, rfl, mg_setGen hd⟩, b.set hd c'.gs⟩
          | _ =>
            obtain ⟨rfl, rfl⟩ := h
            exact ⟨⟨rfl, rfl⟩, F⟩
      | suspended k l c p' fs cl =>
        obtain ⟨e₁, s₁, hr, hq, rfl, rfl⟩ := h
        obtain ⟨a, b, c'⟩ := runs_frame hr (F.set hd fun _ _ _ _ _ _ z => by cases z) (F.pr _ _ _ _ _ _ _ hd hg)
        rw [mg_setGen hd] at a
        exact ⟨⟨e₁, _, a, hq, rfl, mg_setGen hd⟩, b.set hd c'.gs⟩
      | running =>
        obtain ⟨rfl, rfl⟩ := h
        exact ⟨⟨rfl, rfl⟩, F⟩
      | finished =>
        obtain ⟨rfl, rfl⟩ := h
        exact ⟨⟨rfl, rfl⟩, F⟩
theorem wp_frame {α : Type} {D : Nat → Option GenState} {Γ : Ctx} (t : Sem α) : ∀ (Q : α → Pos → Shared → Prop) (E : Value → Pos → Shared → Prop) (p : Pos) (s : Shared), wp M Γ t Q E p s → Fits D s →
    wp M Γ t (fun a p' s' => ∃ s₁, s' = mg D s₁ ∧ Fits D s₁ ∧ Q a p' s₁) (fun e p' s' => ∃ s₁, s' = mg D s₁ ∧ Fits D s₁ ∧ E e p' s₁) p (mg D s) := by
  induction t with
  | pure a => exact fun Q E p s h F => ⟨s, rfl, F, h⟩
  | raise e => exact fun Q E p s h F => ⟨s, rfl, F, h⟩
  | unsupported _ => exact fun Q E p s h _ => h
  | finish _ => exact fun Q E p s h _ => h
  | rule _ k ih => exact fun Q E p s h F => ih () Q E p s h F
  | «at» p' k ih => exact fun Q E p s h F => ih () Q E p' s h F
  | load a _ k ih => exact fun Q E p s h F => let ⟨o, ho, h⟩ := h; ⟨o, ho, ih o Q E p s h F⟩
  | update a _ f k ih => exact fun Q E p s h F => ⟨h.1, ih () Q E p _ h.2 ⟨F.at_, F.pr⟩⟩
  | loadIfAlive a k ih => exact fun Q E p s h F => ih _ Q E p s h F
  | point _ k ih => exact fun Q E p s h F => ih () Q E p s h F
  | register _ _ => exact fun Q E p s h _ => h
  | alloc o k ih => exact fun Q E p s h F => ih _ Q E p _ h ⟨F.at_, F.pr⟩
  | fresh k ih => exact fun Q E p s h F => ih _ Q E p _ h ⟨F.at_, F.pr⟩
  | ask k ih => exact fun Q E p s h F => ih _ Q E p s h F
  | choose src m k ih => exact fun Q E p s h F => ⟨h.1, ih _ Q E p _ h.2 ⟨F.at_, F.pr⟩⟩
  | os q _ k ih => exact fun Q E p s h F => ih _ Q E p _ h ⟨F.at_, F.pr⟩
  | call c hd _ _ k ih =>
    intro Q E p s h F
    obtain ⟨r, s', hr, h⟩ := h
    obtain ⟨a, b, _⟩ := runs_frame (D := D) hr F rfl
    exact ⟨r, _, a, ih r Q E p s' h b⟩
  | handled own k ih => exact fun Q E p s h F => ih _ Q E p s h F
  | genState g k ih =>
    intro Q E p s h F
    obtain ⟨st, hs, h⟩ := h
    cases hd : D g with
    | none => exact ⟨st, F.real hs hd, ih _ Q E p s h F⟩
    | some x =>
      have z := (F.at_ g x hd).2
      rw [hs] at z
      cases z
      have h2 := ih _ Q E p s h F
      rw [dm_seen] at h2
      exact ⟨x, by rw [mg_get, hs, hd]; rfl, h2⟩
  | newGen c k ih =>
    intro Q E p s h F
    have z := ih _ Q E p _ h F.push
    rw [mg_push F] at z
    show wp M Γ (k (mg D s).gens.size) _ _ p _
    rw [mg_size]
    exact z
  | resume g r _ k ih =>
    intro Q E p s h F
    obtain ⟨res, s', hw, h⟩ := h
    obtain ⟨a, b⟩ := wakes_frame hw F
    exact ⟨res, _, a, ih res Q E p s' h b⟩
  | yield _ _ _ _ => exact fun Q E p s h _ => h
  | stack k ih => exact fun Q E p s h F => ih _ Q E p s h F
  | fork _ _ => exact fun Q E p s h _ => h
  | thread k ih => exact fun Q E p s h F => ih _ Q E p s h F
  | await _ _ _ _ _ => exact fun Q E p s h _ => h
/-- the generators that sleep -/
def slp (s : Shared) (i : Nat) : Option GenState := (s.gens[i]?).bind fun x => if isS x = true then some x else none
def dms (s : Shared) : Shared := { s with gens := s.gens.map dm }
theorem slp_iff {s : Shared} {i : Nat} {st : GenState} : slp s i = some st ↔ s.gens[i]? = some st ∧ isS st = true := by
  unfold slp
  cases h : s.gens[i]? with
  | none => simp
  | some x =>
    rw [Option.bind_some]
    by_cases z : isS x = true
    · rw [if_pos z]
      constructor
      · intro e
        cases e
        exact ⟨rfl, z⟩
      · intro e
        exact e.1
    · rw [if_neg z]
      constructor
      · intro e
        cases e
      · intro e
        obtain ⟨e, e'⟩ := e
        cases e
        exact absurd e' z
theorem dms_get {s : Shared} (i : Nat) : (dms s).gens[i]? = (s.gens[i]?).map dm := by simp [dms]
theorem dm_id {x : GenState} (h : ¬ isS x = true) : dm x = x := by cases x <;> first | rfl | exact absurd rfl h
theorem isS_dm {x : GenState} : isS (dm x) = isS x := by cases x <;> rfl
theorem fits_dms (s : Shared) : Fits (slp s) (dms s) := by
  refine ⟨fun i st h => ?_, fun i k l c p fr cl h e => ?_⟩
  · obtain ⟨a, b⟩ := slp_iff.mp h
    exact ⟨b, by rw [dms_get, a]; rfl⟩
  · rw [dms_get] at e
    cases q : s.gens[i]? with
    | none =>
      rw [q] at e
      cases e
    | some x =>
      rw [q] at e
      have e' : dm x = .suspended k l c p fr cl := Option.some.inj e
      have y : isS x = true := by
        rw [← isS_dm, e']
        rfl
      rw [slp_iff.mpr ⟨q, y⟩] at h
      cases h
theorem mg_dms (s : Shared) : mg (slp s) (dms s) = s := by
  refine ext_gens rfl rfl rfl rfl fun i => ?_
  rw [mg_get, dms_get]
  cases q : s.gens[i]? with
  | none => rfl
  | some x =>
    show some ((slp s i).getD (dm x)) = some x
    by_cases y : isS x = true
    · rw [slp_iff.mpr ⟨q, y⟩]
      rfl
    · have z : slp s i = none := by
        cases w : slp s i with
        | none => rfl
        | some st =>
          obtain ⟨a, b⟩ := slp_iff.mp w
          rw [q] at a
          cases a
          exact absurd b y
      rw [z]
      show some (dm x) = some x
      rw [dm_id y]
/-- all that sleeps stays as it is -/
def KeepS (s s' : Shared) : Prop := ∀ (i : Nat) (st : GenState), isS st = true → s.gens[i]? = some st → s'.gens[i]? = some st
theorem KeepS.refl (s : Shared) : KeepS s s := fun _ _ _ h => h
theorem KeepS.trans {a b c : Shared} (h : KeepS a b) (h' : KeepS b c) : KeepS a c := fun i st q e => h' i st q (h i st q e)
/-- s' is the real state of s₁ -/
structure Real (s s₁ s' : Shared) : Prop where
  heap : s'.heap = s₁.heap
  os : s'.os = s₁.os
  toks : s'.toks = s₁.toks
  size : s'.gens.size = s₁.gens.size
  bare : PyProof.Rows.AllBare s₁.gens → PyProof.Rows.AllBare s'.gens
  keep : KeepS s s'
theorem real_mg {s s₁ : Shared} (F : Fits (slp s) s₁) : Real s s₁ (mg (slp s) s₁) := by
  refine ⟨rfl, rfl, rfl, mg_size, fun hb y hy => ?_, fun i st h e => ?_⟩
  · obtain ⟨i, hi, e⟩ := Array.mem_iff_getElem.mp hy
    have e' : (mg (slp s) s₁).gens[i]? = some y := by rw [Array.getElem?_eq_getElem hi, e]
    rw [mg_get] at e'
    cases q : s₁.gens[i]? with
    | none =>
      rw [q] at e'
      cases e'
    | some x =>
      rw [q] at e'
      have e2 : (slp s i).getD x = y := Option.some.inj e'
      have bx := hb x (Array.mem_of_getElem? q)
      cases d : slp s i with
      | none =>
        rw [d] at e2
        rw [← e2]
        exact bx
      | some st =>
        rw [d] at e2
        have z := (F.at_ i st d).2
        rw [q] at z
        cases z
        rw [← e2]
        show st.bare = true
        rw [← dm_bare]
        exact bx
  · rw [mg_get, (F.at_ i st (slp_iff.mpr ⟨e, h⟩)).2, slp_iff.mpr ⟨e, h⟩]
    rfl
theorem bare_dms {s : Shared} (h : PyProof.Rows.AllBare s.gens) : PyProof.Rows.AllBare (dms s).gens := fun y hy => by
  obtain ⟨i, hi, e⟩ := Array.mem_iff_getElem.mp hy
  have e' : (dms s).gens[i]? = some y := by rw [Array.getElem?_eq_getElem hi, e]
  rw [dms_get] at e'
  cases q : s.gens[i]? with
  | none =>
    rw [q] at e'
    cases e'
  | some x =>
    rw [q] at e'
    cases e'
    rw [dm_bare]
    exact h x (Array.mem_of_getElem? q)
/-- wp: exceptions are left aside -/
theorem wpAny_keep {α : Type} {A : Around} {t : Sem α} {P : α → Shared → Prop} {X E : Value → Shared → Prop} {s : Shared} (h : wpAny M A t P X (dms s)) (hx : ∀ Γ : Ctx, Γ.In A → ∀ e s₁, X e s₁ → False) :
    wpAny M A t (fun a s' => ∃ s₁, Real s s₁ s' ∧ P a s₁) E s := by
  intro Γ p hΓ
  have z := wp_frame (D := slp s) t _ _ p _ (h Γ p hΓ) (fits_dms s)
  rw [mg_dms] at z
  refine Sem.wp_mono M Γ t (fun a p' s' q => ?_) (fun e p' s' q => ?_) p s z
  · obtain ⟨s₁, rfl, F, q⟩ := q
    exact ⟨s₁, real_mg F, q⟩
  · obtain ⟨s₁, rfl, F, q⟩ := q
    exact (hx Γ hΓ e s₁ q).elim
end Mf
/-! The hand layer's judgements with the table of generators: code that leaves it as it is. Same names, another namespace. -/
namespace Gk
open PySem PySem.Spec PyProof.Rows L2
abbrev Eq' (s s' : Shared) : Prop := s'.gens = s.gens
def PE (X : Cx) (e : Expr) (t : TE) : Prop := ∀ (pins : List (Addr × Obj)) (s : Shared) (σ : L2.St) (H : Hp) (Q : VK), Inv X pins σ H s → t σ H Q →
  wpAny (model X.prog X.w) X.A (eval e X.env) (fun u s' => Eq' s s' ∧ EP X pins σ Q u s') X.xe s
def PT (X : Cx) (e : Expr) (t : TT) : Prop := ∀ (pins : List (Addr × Obj)) (s : Shared) (σ : L2.St) (H : Hp) (Q : Bool → Hp → Prop), Inv X pins σ H s → t σ H Q →
  wpAny (model X.prog X.w) X.A (isTrue e X.env (eval e X.env)) (fun b s' => Eq' s s' ∧ TP X pins σ Q b s') X.xe s
def PA (X : Cx) (es : List Expr) (t : TA) : Prop := ∀ (pos : Pos) (pins : List (Addr × Obj)) (s : Shared) (σ : L2.St) (H : Hp) (Q : List V → Hp → Prop), Inv X pins σ H s → t σ H Q →
  wpAny (model X.prog X.w) X.A (spliced (backTo pos (starEach es X.env))) (fun us s' => Eq' s s' ∧ AP X pins σ Q us s') X.xe s
def PS (X : Cx) (st : Stmt) (t : TS) : Prop := ∀ (pins : List (Addr × Obj)) (s : Shared) (σ : L2.St) (H : Hp) (D : Ends), Inv X pins σ H s → t D σ H →
  wpAny (model X.prog X.w) X.A (exec st X.env) (fun f s' => Eq' s s' ∧ SP X pins D f s') X.xe s
def PSs (X : Cx) (st : List Stmt) (t : TS) : Prop := ∀ (pins : List (Addr × Obj)) (s : Shared) (σ : L2.St) (H : Hp) (D : Ends), Inv X pins σ H s → t D σ H →
  wpAny (model X.prog X.w) X.A (execs st X.env) (fun f s' => Eq' s s' ∧ SP X pins D f s') X.xe s
def GoP (X : Cx) (pins : List (Addr × Obj)) (s : Shared) (Q : L2.St → Hp → Prop) (s' : Shared) : Prop := Eq' s s' ∧ ∃ σ' H', Inv X pins σ' H' s' ∧ Q σ' H'
def PG (X : Cx) (target : Expr) (t : TG) : Prop := ∀ (pins : List (Addr × Obj)) (s : Shared) (σ : L2.St) (H : Hp) (v : V) (u : Value) (Q : L2.St → Hp → Prop), Inv X pins σ H s → RelV v u → t v σ H Q →
  wpAny (model X.prog X.w) X.A (assign target X.env u) (fun _ s' => GoP X pins s Q s') X.xe s
def PGs (X : Cx) (ts : List Expr) (t : TGs) : Prop := ∀ (pins : List (Addr × Obj)) (s : Shared) (σ : L2.St) (H : Hp) (vs : List V) (us : List Value) (Q : L2.St → Hp → Prop), Inv X pins σ H s → Vals vs us → t vs σ H Q →
  wpAny (model X.prog X.w) X.A (assignInOrder ((assignEach ts X.env).map (·.2)) us) (fun _ s' => GoP X pins s Q s') X.xe s
def OpR (X : Cx) (f : Value → Value → Sem Value) (r : R2) : Prop := ∀ (pins : List (Addr × Obj)) (s : Shared) (σ : L2.St) (H : Hp) (x y : V) (v u : Value) (Q : VK), Inv X pins σ H s → RelV x v → RelV y u → r x y H Q →
  wpAny (model X.prog X.w) X.A (f v u) (fun z s' => Eq' s s' ∧ EP X pins σ Q z s') X.xe s
def IxR (X : Cx) (r : R2) : Prop := ∀ (value slice : Expr) (pins : List (Addr × Obj)) (s : Shared) (σ : L2.St) (H : Hp) (x y : V) (v u : Value) (Q : VK), Inv X pins σ H s → RelV x v → RelV y u → r x y H Q →
  subscripted slice false v u = operate [v, u] (getItem v u) → wpAny (model X.prog X.w) X.A (subscriptTail value slice v u) (fun z s' => Eq' s s' ∧ EP X pins σ Q z s') X.xe s
def CallR (X : Cx) (f : Value) (r : List V → Hp → VK → Prop) : Prop := ∀ (pins : List (Addr × Obj)) (s : Shared) (σ : L2.St) (H : Hp) (xs : List V) (us : List Value) (Q : VK), Inv X pins σ H s → Vals xs us → r xs H Q →
  wpAny (model X.prog X.w) X.A (call f us) (fun z s' => Eq' s s' ∧ EP X pins σ Q z s') X.xe s
/-! ### names -/
section
variable {X : Cx}
theorem pv (i : Nat) {x : Str} {pos : Pos} (hN : X.N[i]? = some x := by rfl) (hv : Vis X.env.scope x := by first | exact Or.inl rfl | exact Or.inr (Or.inl rfl) | exact Or.inr (Or.inr rfl)) (hd : (x == ("__debug__" : Str)) = false := by decide)
    (hcd : (x == ("__classdict__" : Str)) = false := by decide) : PE X (.Name x pos) (tVar i) := by
  intro pins s σ H Q I ⟨v, e, q⟩
  obtain ⟨m, hn, hl⟩ := I.loc
  obtain ⟨u, r, l⟩ := hl i x v hN e hv
  have fin : Eq' s s ∧ EP X pins σ Q u s := ⟨rfl, v, H, I, r, q⟩
  rcases l with ⟨hk, hm⟩ | ⟨hk | hk, c, hc, hcell⟩
  · exact wpAny_Name (wpAny_loadName_local I.ok.kind hk hn hm fin) hd
  · exact wpAny_Name (wpAny_loadName_cell I.ok.kind hk hc hcell fin) hd
  · exact wpAny_Name (wpAny_loadName_free I.ok.kind hk hc hcell fin hcd) hd
theorem pe_int {i : Int} {j : Nat} {pos : Pos} : PE X (.Constant (.int i) j pos) (tC (.int i)) := fun _ _ _ H _ I q => wpAny_Constant_int ⟨rfl, .int i, H, I.tok _, ⟨_, rfl⟩, q⟩
theorem pe_non {j : Nat} {pos : Pos} : PE X (.Constant .none j pos) (tC .non) := fun _ _ _ H _ I q => Constant_none ⟨rfl, .non, H, I, rfl, q⟩
theorem pe_glob {x : Str} {v : V} {u : Value} {pos : Pos} (hg : Gl X x) (hm : X.mg x = some u) (r : RelV v u) (hd : (x == ("__debug__" : Str)) = false := by decide) : PE X (.Name x pos) (tC v) :=
  fun _ _ _ H _ I q => ld_glob I hg hm ⟨rfl, v, H, I, r, q⟩ hd
end
/-! ### ints -/
section
variable {X : Cx}
theorem gI {f : Value → Value → Sem Value} {C : Int → Int → Prop} {g : Int → Int → Int}
    (rule : ∀ (i j : Int) (t u : Tok) (s : Shared) (Q : Value → Shared → Prop) (E : Value → Shared → Prop), C i j → Q (.int (g i j) s.toks) { s with toks := s.toks + 1 } → wpAny (model X.prog X.w) X.A (f (.int i t) (.int j u)) Q E s) :
    OpR X f (rI C fun i j => .int (g i j)) := by
  intro pins s σ H x y v u Q I rx ry ⟨i, j, e1, e2, hc, q⟩
  subst e1 e2
  obtain ⟨t, rfl⟩ := rx
  obtain ⟨t', rfl⟩ := ry
  exact rule i j t t' s _ _ hc ⟨rfl, .int (g i j), H, I.tok _, ⟨_, rfl⟩, q⟩
theorem gI0 {f : Value → Value → Sem Value} {g : Int → Int → Int}
    (rule : ∀ (i j : Int) (t u : Tok) (s : Shared) (Q : Value → Shared → Prop) (E : Value → Shared → Prop), Q (.int (g i j) s.toks) { s with toks := s.toks + 1 } → wpAny (model X.prog X.w) X.A (f (.int i t) (.int j u)) Q E s) :
    OpR X f (rI0 fun i j => .int (g i j)) := by
  intro pins s σ H x y v u Q I rx ry ⟨i, j, e1, e2, q⟩
  subst e1 e2
  obtain ⟨t, rfl⟩ := rx
  obtain ⟨t', rfl⟩ := ry
  exact rule i j t t' s _ _ ⟨rfl, .int (g i j), H, I.tok _, ⟨_, rfl⟩, q⟩
theorem gB0 {f : Value → Value → Sem Value} {g : Int → Int → Bool}
    (rule : ∀ (i j : Int) (t u : Tok) (s : Shared) (Q : Value → Shared → Prop) (E : Value → Shared → Prop), Q (.bool (g i j)) s → wpAny (model X.prog X.w) X.A (f (.int i t) (.int j u)) Q E s) :
    OpR X f (rI0 fun i j => .bl (g i j)) := by
  intro pins s σ H x y v u Q I rx ry ⟨i, j, e1, e2, q⟩
  subst e1 e2
  obtain ⟨t, rfl⟩ := rx
  obtain ⟨t', rfl⟩ := ry
  exact rule i j t t' s _ _ ⟨rfl, .bl (g i j), H, I, rfl, q⟩
theorem op_add : OpR X (binaryOp .Add) (rI0 fun i j => .int (i + j)) := gI0 fun i j t u s Q E q => add_int q
theorem op_sub : OpR X (binaryOp .Sub) (rI0 fun i j => .int (i - j)) := gI0 fun i j t u s Q E q => sub_int q
theorem op_mul : OpR X (binaryOp .Mult) (rI CMul fun i j => .int (i * j)) := gI fun i j t u s Q E hc q => mul_int q hc.ok
theorem op_fdiv : OpR X (binaryOp .FloorDiv) (rI CDiv fun i j => .int (i / j)) := gI fun i j t u s Q E ⟨h1, h2⟩ q =>
  floordiv_int (by omega) (by rw [Int.fdiv_eq_ediv_of_nonneg i (by omega)]; exact q) (.inl (PyProof.noPylong_small (by omega)))
theorem op_mod : OpR X (binaryOp .Mod) (rI (fun _ j => 0 < j) fun i j => .int (i % j)) := gI fun i j t u s Q E h1 q => by
  have z : (0 : Int) < j := h1
  exact mod_int' (by omega) (by rw [Int.fmod_eq_emod_of_nonneg i (by omega)]; exact q)
theorem op_le : OpR X (compareOp .LtE) (rI0 fun i j => .bl (decide (i ≤ j))) := gB0 fun i j t u s Q E q => le_int q
theorem op_lt : OpR X (compareOp .Lt) (rI0 fun i j => .bl (decide (i < j))) := gB0 fun i j t u s Q E q => lt_int q
theorem op_eqI : OpR X (compareOp .Eq) (rI0 fun i j => .bl (decide (i = j))) := gB0 (g := fun i j => decide (i = j)) fun i j t u s Q E q => eq_int q
theorem op_neI : OpR X (compareOp .NotEq) (rI0 fun i j => .bl (!decide (i = j))) := gB0 (g := fun i j => !decide (i = j)) fun i j t u s Q E q => ne_int q
theorem op_in_seq : OpR X (compareOp .In) (rIn X.K false) := by
  intro pins s σ H x y v u Q I rx ry ⟨p, xs, e, hq, fx, fs, q⟩
  subst e
  cases ry
  rcases hq with hq | hq
  · obtain ⟨its, r, pl, hz⟩ := I.list hq
    refine SeqAt.in_listAt (eqU x) pl.isList (fun w hw => mem_eqAt rx fx r fs w (by simpa using hw)) ⟨rfl, .bl _, H, I, rfl, ?_⟩
    rw [show its.toArray.any (eqU x) = its.any (eqU x) by simp, any_eqU r fs]
    exact q
  · obtain ⟨its, r, pl, hz⟩ := I.tuple hq
    refine SeqAt.in_tupleAt (eqU x) pl (fun w hw => mem_eqAt rx fx r fs w (by simpa using hw)) ⟨rfl, .bl _, H, I, rfl, ?_⟩
    rw [show its.toArray.any (eqU x) = its.any (eqU x) by simp, any_eqU r fs]
    exact q
theorem call_minI (hc : X.calm = true) : CallR X (.builtin "min") (fun xs H Q => ∃ i j, xs = [.int i, .int j] ∧ Q (.int (min i j)) H) := by
  intro pins s σ H xs us Q I r ⟨i, j, e, q⟩
  subst e
  obtain ⟨u, w', rfl, ⟨t, rfl⟩, ⟨t', rfl⟩⟩ := vals2 r
  refine min_two_ints (I.ok.hd hc) fun h' tk k => ⟨rfl, .int (min i j), H, I.kept k, ?_, q⟩
  by_cases hj : j < i
  · rw [if_pos hj, show min i j = j by omega]
    exact ⟨_, rfl⟩
  · rw [if_neg hj, show min i j = i by omega]
    exact ⟨_, rfl⟩
end
/-! ### expressions -/
section
variable {X : Cx} {a b c : Expr} {ta tb tc : TE} {tA tB' : TT} {pos : Pos} {rest : List Expr}
theorem pe_op {op : Operator} {r : R2} (ho : OpR X (binaryOp op) r) (ha : PE X a ta) (hb : PE X b tb) : PE X (.BinOp a op b pos) (tOp r ta tb) := by
  intro pins s σ H Q I h
  refine wpAny_BinOp (thn (ha pins s σ H _ I h) fun v s1 ⟨g1, x, H1, I1, r1, q1⟩ => thn (hb pins s1 σ H1 _ I1 q1) fun u s2 ⟨g2, y, H2, I2, r2, q2⟩ => ?_)
  exact thn (ho pins s2 σ H2 x y v u Q I2 r1 r2 q2) fun z s3 ⟨g3, q3⟩ => ⟨g3.trans (g2.trans g1), q3⟩
theorem pe_cmpR {op : CmpOp} {r : R2} (ho : OpR X (compareOp op) r) (ha : PE X a ta) (hb : PE X b tb) (hm : behindInMarks op b = false) : PE X (.Compare a [op] [b] pos) (tOp r ta tb) := by
  intro pins s σ H Q I h
  refine wpAny_Compare1 (thn (ha pins s σ H _ I h) fun v s1 ⟨g1, x, H1, I1, r1, q1⟩ => thn (hb pins s1 σ H1 _ I1 q1) fun u s2 ⟨g2, y, H2, I2, r2, q2⟩ => ?_) hm
  exact thn (ho pins s2 σ H2 x y v u Q I2 r1 r2 q2) fun z s3 ⟨g3, q3⟩ => ⟨g3.trans (g2.trans g1), q3⟩
theorem pt_cmpR {op : CmpOp} {r : R2} (ho : OpR X (compareOp op) r) (ha : PE X a ta) (hb : PE X b tb) (hm : behindInMarks op b = false) : PT X (.Compare a [op] [b] pos) (tTest (tOp r ta tb)) := by
  intro pins s σ H Q I h
  refine wpAny_isTrue_Compare1 (thn (ha pins s σ H _ I h) fun v s1 ⟨g1, x, H1, I1, r1, q1⟩ => thn (hb pins s1 σ H1 _ I1 q1) fun u s2 ⟨g2, y, H2, I2, r2, q2⟩ =>
    thn (ho pins s2 σ H2 x y v u _ I2 r1 r2 q2) fun c s3 ⟨g3, z, H3, I3, r3, k, e, q3⟩ => ?_) hm
  subst e
  cases r3
  exact wpAny_truthy_bool ⟨g3.trans (g2.trans g1), H3, I3, q3⟩
theorem pe_chain {op op' : CmpOp} {r r' : R2} (ho : OpR X (compareOp op) r) (ho' : OpR X (compareOp op') r') (ha : PE X a ta) (hb : PE X b tb) (hc : PE X c tc)
    (hm : lastMarks [op, op'] [b, c] = false := by with_unfolding_all rfl) : PE X (.Compare a [op, op'] [b, c] pos) (tChain r r' ta tb tc) := by
  intro pins s σ H Q I h
  refine Compare_chain (thn (ha pins s σ H _ I h) fun v s1 ⟨g1, x, H1, I1, r1, q1⟩ => chain_link (thn (hb pins s1 σ H1 _ I1 q1) fun u s2 ⟨g2, y, H2, I2, r2, q2⟩ =>
    thn (ho pins s2 σ H2 x y v u _ I2 r1 r2 q2) fun d s3 ⟨g3, z, H3, I3, r3, k, e, q3⟩ => ?_)) hm
  subst e
  cases r3
  have g := g3.trans (g2.trans g1)
  refine wpAny_truthy_bool ?_
  cases k with
  | false => exact ite_ff ⟨g, .bl false, H3, I3, rfl, q3⟩
  | true =>
    refine ite_tt (chain_last (thn (hc pins s3 σ H3 _ I3 q3) fun w' s4 ⟨g4, z', H4, I4, r4, q4⟩ => ?_))
    exact thn (ho' pins s4 σ H4 y z' u w' Q I4 r2 r4 q4) fun _ s5 ⟨g5, q5⟩ => ⟨g5.trans (g4.trans g), q5⟩
theorem pt_val {e : Expr} {t : TE} (h : PE X e t) (he : ∀ whole, isTrue e X.env whole = (do let v ← whole; standAt e.pos; holding [v] (truthy v)) := by intro _; rfl) : PT X e (tB t) := by
  intro pins s σ H Q I hw
  refine isTrue_plain (thn (h pins s σ H _ I hw) fun v s1 ⟨g1, x, H1, I1, r1, d, e1, q⟩ => ?_) (he _)
  subst e1
  cases r1
  exact wpAny_truthy_bool ⟨g1, H1, I1, q⟩
theorem pt_not (ha : PT X a tA) : PT X (.UnaryOp .Not a pos) (tNot tA) := fun pins s σ H Q I h => isTrue_not (ha pins s σ H (fun c H1 => Q (!c) H1) I h)
theorem pe_one {op : BoolOp} {t : TE} (h : PE X a t) : PE X (.BoolOp op [a] pos) t := fun pins s σ H Q I hw => BoolOp_one (h pins s σ H Q I hw)
theorem pe_and (ha : PE X a ta) (hb : PE X (.BoolOp .And (b :: rest) pos) tb) : PE X (.BoolOp .And (a :: b :: rest) pos) (tAndV ta tb) := by
  intro pins s σ H Q I h
  refine BoolOp_and (thn (ha pins s σ H _ I h) fun v s1 ⟨g1, x, H1, I1, r1, c, e, q1⟩ => ?_)
  subst e
  cases r1
  refine wpAny_truthy_bool ?_
  cases c with
  | true => exact thn (hb pins s1 σ H1 Q I1 q1) fun _ s2 ⟨g2, q2⟩ => ⟨g2.trans g1, q2⟩
  | false => exact ⟨g1, .bl false, H1, I1, rfl, q1⟩
theorem pe_or (ha : PE X a ta) (hb : PE X (.BoolOp .Or (b :: rest) pos) tb) : PE X (.BoolOp .Or (a :: b :: rest) pos) (tOrV ta tb) := by
  intro pins s σ H Q I h
  refine BoolOp_or (thn (ha pins s σ H _ I h) fun v s1 ⟨g1, x, H1, I1, r1, c, e, q1⟩ => ?_)
  subst e
  cases r1
  refine wpAny_truthy_bool ?_
  cases c with
  | false => exact thn (hb pins s1 σ H1 Q I1 q1) fun _ s2 ⟨g2, q2⟩ => ⟨g2.trans g1, q2⟩
  | true => exact ⟨g1, .bl true, H1, I1, rfl, q1⟩
theorem pe_ifExp {c : Expr} (hc : PT X c tA) (ha : PE X a ta) (hb : PE X b tb) : PE X (.IfExp c a b pos) (tIf tA ta tb) := by
  intro pins s σ H Q I h
  refine wpAny_IfExp (thn (hc pins s σ H _ I h) fun d s1 ⟨g1, H1, I1, q1⟩ => ?_)
  cases d with
  | true => exact thn (ha pins s1 σ H1 Q I1 q1) fun _ s2 ⟨g2, q2⟩ => ⟨g2.trans g1, q2⟩
  | false => exact thn (hb pins s1 σ H1 Q I1 q1) fun _ s2 ⟨g2, q2⟩ => ⟨g2.trans g1, q2⟩
theorem pe_ix {r : R2} (hr : IxR X r) (ha : PE X a ta) (hb : PE X b tb) (hs : PlainIx b) : PE X (.Subscript a b pos) (tOp r ta tb) := by
  intro pins s σ H Q I h
  refine Subscript_ (thn (ha pins s σ H _ I h) fun v s1 ⟨g1, x, H1, I1, r1, q1⟩ => thn (hb pins s1 σ H1 _ I1 q1) fun u s2 ⟨g2, y, H2, I2, r2, q2⟩ => ?_)
  exact thn (hr a b pins s2 σ H2 x y v u Q I2 r1 r2 q2 (hs _ _)) fun z s3 ⟨g3, q3⟩ => ⟨g3.trans (g2.trans g1), q3⟩
theorem ix_tup : IxR X (rIxT X.K) := by
  intro value slice pins s σ H x y v u Q I rx ry ⟨p, xs, i, z, e1, e2, hq, he, q⟩ hs
  subst e1 e2
  cases rx
  obtain ⟨t, rfl⟩ := ry
  obtain ⟨its, r, pl, hz⟩ := I.tuple hq
  obtain ⟨j, h1, h2, h3, h4, h5⟩ := atI_get he
  obtain ⟨w, ew, rw'⟩ := r.get h2
  have hl := r.length
  have hn := line63
  exact subscriptTail_builtinR (x := w) pl.typeIs slot_tuple_getitem.lookup
    (getItem_tuple (j := j) (Q := fun r s' => r = w ∧ Eq' s s' ∧ EP X pins σ Q r s') pl (by omega) (by omega) (by rw [List.size_toArray, ← hl]; exact h1) (by simpa using ew) ⟨rfl, rfl, z, H, I, rw', q⟩) hs
end
/-! ### arguments, calls -/
section
variable {X : Cx} {e : Expr} {es : List Expr} {te : TE} {t : TA} {pos p : Pos} {x : Str}
theorem pa_nil : PA X [] tNil := fun _ _ _ _ _ _ I q => Calls.spliced_nil ⟨rfl, [], _, I, .nil, q⟩
theorem pa_cons (ha : PE X e te) (hr : PA X es t) (hs : starEach (e :: es) X.env = (false, eval e X.env) :: starEach es X.env := by rfl) : PA X (e :: es) (tCons te t) := by
  intro pos pins s σ H Q I h
  rw [hs]
  show wpAny _ _ (spliced ((false, eval e X.env) :: backTo pos (starEach es X.env))) _ _ s
  refine Calls.spliced_cons (thn (ha pins s σ H _ I h) fun u s1 ⟨g1, x, H1, I1, r1, q1⟩ => ?_)
  exact thn (hr pos pins s1 σ H1 _ I1 q1) fun us s2 ⟨g2, xs, H2, I2, r2, q2⟩ => ⟨g2.trans g1, x :: xs, H2, I2, .cons r1 r2, q2⟩
theorem pe_tup {x1 : Nat} (h : PA X es t) : PE X (.Tuple es x1 pos) (tTup t) := by
  intro pins s σ H Q I hq
  refine wpAny_Tuple_spliced (thn (h pos pins s σ H _ I hq) fun us s1 ⟨g1, xs, H1, I1, r, z, q⟩ => ⟨by rw [← r.length]; exact z, ?_⟩)
  refine ⟨g1, .ref s1.heap.objs.size, upd H1 s1.heap.objs.size (.tup xs), I1.laid (t' := s1.toks) (fun b u e => Heap.get?_push_of_some _ e) (Nat.le_refl _) ?_, rfl, q _ (I1.hok.fresh (Nat.le_refl _))⟩
  exact ⟨z, us, r, ⟨_, Heap.get?_push_size _ rfl, rfl, _, rfl⟩⟩
theorem pe_callB {r : List V → Hp → VK → Prop} {id : String} (hc : CallR X (.builtin id) r) (hg : Gl X x) (hm : X.mg x = none) (hv : bootBuiltins x = some (.builtin id)) (ha : PA X (e :: es) t) (hn : x ≠ "__name__" := by decide) (hdb : (x == ("__debug__" : Str)) = false := by decide)
    (he : starEach (e :: es) X.env = (false, eval e X.env) :: starEach es X.env := by rfl) (hpl : (backTo pos (starEach es X.env)).any (·.1) = false := by rfl) : PE X (.Call (.Name x p) (e :: es) [] pos) (tCB r t) := by
  intro pins s σ H Q I h
  refine wpAny_Call_Name_kw (ld_blt I hg hm hv ?_ hn hdb)
  refine PyProof.Rows.callWith_builtin1 (thn (ha pos pins s σ H _ I h) fun us s1 ⟨g1, vs, H1, I1, r1, q1⟩ => ?_) he hpl
  exact thn (hc pins s1 σ H1 vs us Q I1 r1 q1) fun z s2 ⟨g2, q2⟩ => ⟨g2.trans g1, q2⟩
/-- a def's promise, with the table -/
structure FnOk (P : Program) (w : World) (K : PySem.W.Frag) (mg : Str → Option Value) (base : Heap) (k : Nat) (f : Addr) (fd : FuncData) (ps : List Str) (sp : Sp) : Prop where
  len : ∀ vs H Q E, sp vs H Q E → vs.length = ps.length
  run : ∀ (A : Around) (outer : List Env) (s : Shared) (H : Hp) (args : Args) (us : List Value) (vs : List V) (Q : VK) (E : XK), Room k A → Env0 P w K mg base A outer s H → BindsTo s fd args (ps.zip us) → Vals vs us → sp vs H Q E →
    codeAny (model P w) A (.call (.ref f) args) (fun r s' => Eq' s s' ∧ CR CX0 outer P w H s Q E r s') s
theorem pe_call {k : Nat} {f : Addr} {fd : FuncData} {ps : List Str} {sp : Sp} {dvs : List V} {ds : List Value} {E : XK} (F : FnOk X.prog X.w X.K X.mg X.base k f fd ps sp) (hr : Room k X.A) (hg : Gl X x) (hm : X.mg x = some (.ref f)) (hk : PySem.W.keepIn X.K (.ref f) = true) (hb : Binds X.K fd ps ds) (hd : Vals dvs ds) (_hx : Passes CX0 X E)
    (ha : PA X (e :: es) t) (hdb : (x == ("__debug__" : Str)) = false := by decide) (he : starEach (e :: es) X.env = (false, eval e X.env) :: starEach es X.env := by rfl) (hpl : (backTo pos (starEach es X.env)).any (·.1) = false := by rfl) :
    PE X (.Call (.Name x p) (e :: es) [] pos) (tCall sp dvs E t) := by
  intro pins s σ H Q I h
  refine wpAny_Call_Name_kw (ld_glob I hg hm ?_ hdb)
  refine PySem.W.callWith_K (h₀ := X.base) I.ok.mod.kin hk (thn (ha pos pins s σ H _ I h) fun us s1 ⟨g1, vs, H1, I1, r, q⟩ => ⟨I1.kIn, ?_⟩) he hpl
  have r2 : Vals (vs ++ dvs) (us ++ ds) := r.append hd
  have hl : (us ++ ds).length = ps.length := by rw [← r2.length]; exact F.len _ _ _ _ q
  refine wpAny_call (codeAny_mono (F.run X.A X.stack s1 H1 ⟨us, []⟩ (us ++ ds) (vs ++ dvs) Q E hr I1.env0 (hb s1 us I1.kIn hl) r2 q) fun r s' ⟨g2, hq⟩ => ?_)
  cases r with
  | error e => exact False.elim hq
  | ok fl =>
    cases fl with
    | ret u => exact ⟨g2.trans g1, I1.after hq⟩
    | next => exact False.elim hq
    | brk => exact False.elim hq
    | cont => exact False.elim hq
end
/-! ### stores -/
section
variable {X : Cx} {pins : List (Addr × Obj)} {σ : L2.St} {H : Hp} {s : Shared}
/-- a plain local name is stored -/
theorem store {E : Value → Shared → Prop} {i : Nat} {x : Str} {v : V} {u : Value} {Q : Unit → Shared → Prop} (I : Inv X pins σ H s) (hN : X.N.Nodup) (hi : X.N[i]? = some x) (hx : X.env.scope.names.lookup x = some .local) (r : RelV v u)
    (h : ∀ s', Eq' s s' → Inv X pins (σ.set i (some v)) H s' → Q () s') : wpAny (model X.prog X.w) X.A (storeName X.env x u) Q E s := by
  obtain ⟨m, hn, hl⟩ := id I.loc
  obtain ⟨oL, esL, epL, hoL, rL⟩ := id hn
  have plain : (X.env.scope.kind == .class || (X.env.scope.kind == .module && X.env.locals != X.env.globals)) = false := by rw [I.ok.kind]; rfl
  refine wpAny_storeName_local hx hn (fun h' hn' hs => h _ rfl ?_) plain
  have old : ∀ b o, X.s_0.heap.get? b = some o → b ≠ X.env.locals := fun b o e => Nat.ne_of_lt (Nat.lt_of_lt_of_le (Heap.lt_size e) I.ok.above)
  have has : i < σ.length := by
    rw [I.len]
    exact (List.getElem?_eq_some_iff.mp hi).1
  refine ⟨I.ok, I.os, I.bare, ⟨fun b o e n hb hx' => ?_, fun b o e n hb hx' => ?_, I.base.free, fun b o e hx' => ?_, I.base.tups, I.base.frzs, I.base.tbls⟩, ⟨_, hn', fun j y v' e1 e2 e3 => ?_⟩, fun y c e => ?_, I.free, I.freeC, fun p hp => ?_, fun b o e => ?_, ?_⟩
  · rw [show ({ s with heap := h', toks := s.toks + 1 } : Shared).heap.get? b = s.heap.get? b from hs.2 b (old b o e)]
    exact I.base.keep b o e n hb hx'
  · obtain ⟨sl, z⟩ := I.base.slot b o e n hb hx'
    exact ⟨sl, (hs.2 b (old b o e)).trans z⟩
  · obtain ⟨o', z⟩ := I.base.there b o e hx'
    exact ⟨o', (hs.2 b (old b o e)).trans z⟩
  · by_cases hj : j = i
    · subst hj
      rw [hi] at e1
      cases e1
      rw [List.getElem?_set_self has] at e2
      cases e2
      exact ⟨u, r, .inl ⟨hx, by simp⟩⟩
    · rw [List.getElem?_set_ne (Ne.symm hj)] at e2
      obtain ⟨u', r', q⟩ := hl j y v' e1 e2 e3
      refine ⟨u', r', ?_⟩
      rcases q with ⟨k, e⟩ | ⟨k, c, e, z⟩
      · have ne : y ≠ x := fun e => hj (nodup_ix hN e1 (e ▸ hi))
        exact .inl ⟨k, by simp [ne, e]⟩
      · exact .inr ⟨k, c, e, z.sameBut hs (I.cne y c e)⟩
  · obtain ⟨w', z⟩ := I.cell y c e
    exact ⟨w', z.sameBut hs (I.cne y c e)⟩
  · obtain ⟨e, n, ne, nf, d⟩ := I.pin p hp
    exact ⟨(hs.2 p.1 ne).trans e, n, ne, nf, d⟩
  · refine (I.hok b o e).stay (fun c w' hc q => (hs.2 c ?_).trans q) (fun _ q => q) fun _ _ q => q
    rintro rfl
    rcases hc with rfl | hc
    · rw [I.free] at e
      cases e
    · rw [I.free] at hc
      cases hc
  · rw [List.length_set]
    exact I.len
variable {e : Expr} {es : List Expr} {te : TE} {t u : TS} {st : Stmt} {rest : List Stmt} {pos : Pos}
theorem pg_name {i : Nat} {x : Str} (hN : X.N.Nodup) (hi : X.N[i]? = some x) (hx : X.env.scope.names.lookup x = some .local ∨ False) : PG X (.Name x pos) (gName i) := fun pins s σ H v u Q I r q =>
  wpAny_assign_Name (store I hN hi (hx.resolve_right id) r fun s' g I' => ⟨g, _, H, I', q⟩)
theorem pgs_nil : PGs X [] gNil := by
  intro pins s σ H vs us Q I r ⟨e, q⟩
  subst e
  cases r
  exact assignInOrder_nil ⟨rfl, σ, H, I, q⟩
theorem pgs_cons {t : TG} {u : TGs} (h1 : PG X e t) (h2 : PGs X es u) (hs : (assignEach (e :: es) X.env).map (·.2) = assign e X.env :: (assignEach es X.env).map (·.2) := by rfl) : PGs X (e :: es) (gCons t u) := by
  intro pins s σ H vs us Q I r ⟨v, vr, e1, q⟩
  subst e1
  cases r with
  | cons r rr =>
    rw [hs]
    refine assignInOrder_cons (thn (h1 pins s σ H _ _ _ I r q) fun _ s1 ⟨g1, σ1, H1, I1, q1⟩ => ?_)
    exact thn (h2 pins s1 σ1 H1 _ _ Q I1 rr q1) fun _ s2 ⟨g2, q2⟩ => ⟨g2.trans g1, q2⟩
theorem pg_tup {k : Nat} {t : TGs} {n : Nat} (hc : X.calm = true) (h : PGs X es t) (hn : (assignEach es X.env).length = n := by rfl) (hst : (assignEach es X.env).findIdx? (·.1) = none := by rfl) : PG X (.Tuple es k pos) (gTup X.K n t) := by
  intro pins s σ H v u Q I r ⟨a, xs, e1, hq, hl, hw⟩
  subst e1
  cases r
  obtain ⟨its, rv, ht, hz⟩ := I.tuple hq
  refine assign_Tuple_tuple (I.ok.hd hc) ht (by simp [hn, ← hl, rv.length]) hst fun h' hx => ?_
  have I1 : Inv X pins σ H { s with heap := h' } := I.kept (t' := s.toks) fun b o e => hx b o (Nat.ne_of_lt (Heap.lt_size e)) e
  exact thn (h pins _ σ H xs _ Q I1 (by simpa using rv) hw) fun _ s2 ⟨g2, q2⟩ => ⟨g2, q2⟩
theorem ps_asg {tg e : Expr} {te : TE} {g : TG} (he : PE X e te) (hg : PG X tg g) (hs : swapsWithSole [tg] e pos.line X.env = pure false := by rfl) (hw : swappedStores [tg] e X.env = pure none := by rfl)
    (h1 : (assignEach [tg] X.env).map (·.2) = [assign tg X.env] := by rfl) : PS X (.Assign [tg] e pos) (tAsg te g) := by
  intro pins s σ H D I h
  refine wpAny_Assign_stores (thn (he pins s σ H _ I h) fun v s1 ⟨g1, x, H1, I1, r1, q1⟩ => ?_) hs hw
  rw [h1]
  exact thn (hg pins s1 σ H1 x v _ I1 r1 q1) fun _ s2 ⟨g2, q⟩ => ⟨g2.trans g1, q⟩
theorem ps_set {i : Nat} {x : Str} {pos' : Pos} (hN : X.N.Nodup) (hi : X.N[i]? = some x) (hx : X.env.scope.names.lookup x = some .local ∨ False) (he : PE X e te) (hs : swapsWith e (some (.Name x pos')) pos.line X.env = pure false := by rfl) :
    PS X (.Assign [.Name x pos'] e pos) (tAsg te (gName i)) := by
  intro pins s σ H D I h
  refine wpAny_Assign_Name (thn (he pins s σ H _ I h) fun v s1 ⟨g1, y, H1, I1, r1, q1⟩ => ?_) hs
  exact store I1 hN hi (hx.resolve_right id) r1 fun s2 g2 I2 => ⟨g2.trans g1, _, H1, I2, q1⟩
theorem ps_expr (he : PE X e te) (hs : swapsWith e none pos.line X.env = pure false := by rfl) : PS X (.Expr e pos) (tDrop te) := fun pins s σ H D I h =>
  wpAny_Expr_any (thn (he pins s σ H _ I h) fun v s1 ⟨g1, x, H1, I1, r1, q1⟩ => ⟨g1, σ, H1, I1, q1⟩) I.quiet hs
theorem ps_ret (he : PE X e te) : PS X (.Return (some e) pos) (tRet te) := fun pins s σ H D I h =>
  wpAny_Return_some (thn (he pins s σ H _ I h) fun v s1 ⟨g1, x, H1, I1, r1, q1⟩ => ⟨g1, x, σ, H1, I1, r1, q1⟩)
theorem ps_never : PS X st tNever := fun _ _ _ _ _ _ h => h.elim
theorem pss_nil : PSs X [] tNext := fun _ _ σ H _ I h => wpAny_execs_nil ⟨rfl, σ, H, I, h⟩
theorem pss_cons (h1 : PS X st t) (h2 : PSs X rest u) : PSs X (st :: rest) (tSeq t u) := by
  intro pins s σ H D I h
  refine wpAny_execs_cons (thn (h1 pins s σ H { D with nx := u D } I h) fun f s1 ⟨g1, q⟩ => ?_)
  cases f with
  | next =>
    obtain ⟨σ', H', I', q⟩ := q
    exact thn (h2 pins s1 σ' H' D I' q) fun _ s2 ⟨g2, q2⟩ => ⟨g2.trans g1, q2⟩
  | ret v => exact ⟨g1, q⟩
  | brk => exact ⟨g1, q⟩
  | cont => exact ⟨g1, q⟩
theorem pss_one (h1 : PS X st t) : PSs X [st] t := by
  intro pins s σ H D I h
  refine wpAny_execs_cons (thn (h1 pins s σ H D I h) fun f s1 ⟨g1, q⟩ => ?_)
  cases f with
  | next => exact wpAny_execs_nil ⟨g1, q⟩
  | ret v => exact ⟨g1, q⟩
  | brk => exact ⟨g1, q⟩
  | cont => exact ⟨g1, q⟩
theorem ps_if {c : Expr} {a b : List Stmt} {tc : TT} (hc : PT X c tc) (ha : PSs X a t) (hb : PSs X b u) : PS X (.If c a b pos) (tIfS tc t u) := by
  intro pins s σ H D I h
  refine wpAny_If (thn (hc pins s σ H _ I h) fun d s1 ⟨g1, H1, I1, q1⟩ => ?_)
  cases d with
  | true => exact thn (ha pins s1 σ H1 D I1 q1) fun _ s2 ⟨g2, q2⟩ => ⟨g2.trans g1, q2⟩
  | false => exact thn (hb pins s1 σ H1 D I1 q1) fun _ s2 ⟨g2, q2⟩ => ⟨g2.trans g1, q2⟩
theorem PSs.nox {st : List Stmt} {t : TS} (h : PSs X.nox st t) : PSs X st t := fun pins s σ H D I hw =>
  wpAny_mono (h pins s σ H D (I.wish _) hw) (fun _ _ ⟨g, q⟩ => ⟨g, q.unwish⟩) fun _ _ z => False.elim z
end
/-! ### a def -/
theorem okG {P : Program} {w : World} {K : PySem.W.Frag} {mg : Str → Option Value} {base : Heap} {x qual : Str} {params : Arguments} {body : List Stmt} {scope : Scope} {dvs : List V} {kws : List (Str × V)} {f : Addr} {fd : FuncData} {N ps : List Str} {k : Nat} {sp : Sp}
    (F : FunD K x qual params body scope dvs kws f fd) (S : FnScope N ps scope) (len : ∀ vs H Q E, sp vs H Q E → vs.length = ps.length)
    (hbody : ∀ (cdv : Value) (A : Around) (outer : List Env) (s : Shared) (H : Hp) (vs : List V) (Q : VK) (E : XK), Room k (A.deeper (envOfC qual scope s.heap.objs.size f cdv)) → sp vs H Q E →
      ∃ t, PSs (cxOf CX0 P w K mg base N qual scope f cdv A outer s H E) body t ∧ t { nx := fun _ H' => Q .non H', rt := Q } (start N vs) H) : FnOk P w K mg base (k + 1) f fd ps sp := by
  obtain ⟨oc, od, dV, kV, doc, pm, an, cdv, ct, osl, rfl, lk, hcd, _, _⟩ := F.ex
  refine ⟨len, fun A outer s H args us vs Q E hr e0 hb r hsp => ?_⟩
  have hl := len _ _ _ _ hsp
  have KX : K.In s.heap := e0.mod.kin.keeps fun b o e => (e0.bs b o e).1
  have lim : s.heap.NoLimit := e0.mod.nolimit.keeps fun b o e => (e0.bs b o e).1
  have kinds : ∀ y ∈ ps.zip us, scope.names.lookup y.1 = some .local ∨ (scope.names.lookup y.1 = some .cell ∧ ((cellsFrom (s.heap.objs.size + 1) scope.names []).lookup y.1).isSome = true) := fun ⟨n, v⟩ hy => by
    rcases S.par n (List.of_mem_zip hy).1 with q | q
    · exact .inl q
    · exact .inr ⟨q, PySem.W.cellsFrom_some _ _ _ (.inl q)⟩
  refine codeAny_call_function hr.depth (KX _ _ lk) rfl S.co S.gen rfl (PySem.W.codeRec_of KX hcd) (hb _ _ _ _ ?_)
  refine wpAny_newFunctionEnv_cells S.kind kinds fun env he s1 x => ?_
  subst he
  refine ⟨lim.keeps x.toInCall.keep, codeAny_func ?_⟩
  obtain ⟨t, ht, hq⟩ := hbody cdv A outer s H vs Q E (hr.deeper _) hsp
  have I : Inv (cxOf CX0 P w K mg base N qual scope f cdv A outer s H E) [] (start N vs) H s1 := inv_start S hr.hd e0 hl r x
  have g0 : s1.gens = s.gens := by
    obtain ⟨h1, tk, e1, _⟩ := x.done
    rw [e1]
  refine wpAny_mono (ht [] s1 (start N vs) H _ I hq) (fun fl s' ⟨g1, hs⟩ => ?_) fun e s' hs => wpAny_mono hs (fun _ s'' z => False.elim z) fun _ s'' z => False.elim z
  have g := g1.trans g0
  cases fl with
  | ret u =>
    obtain ⟨v, σ', H', J, rv, q⟩ := hs
    exact ⟨g, v, H', J.os, J.bare, J.base, J.hok, rv, q⟩
  | next =>
    obtain ⟨σ', H', J, q⟩ := hs
    exact ⟨g, .non, H', J.os, J.bare, J.base, J.hok, rfl, q⟩
  | brk =>
    obtain ⟨_, _, _, q⟩ := hs
    exact False.elim q
  | cont =>
    obtain ⟨_, _, _, q⟩ := hs
    exact False.elim q
end Gk
/-! Generators that are woken one by one: the waking; a generator's context, taken anew at each wake. -/
namespace Gn
open PySem PySem.Spec PyProof.Rows L2 GenW
open Mf (isS KeepS)
def later (M : Model) (A : Around) (R : GenEnd) (Y : Protocol) : Nat → GenState → Resume → Shared → Prop
  | 0, _, _, _ => False
  | m + 1, gs, r, s => gs.Goes M A R Y m r s
theorem resumeS {M : Model} {A : Around} {R : GenEnd} {Y : Protocol} {n : Nat} {E : Value → Shared → Prop} {s : Shared} {g : Nat} {gs : GenState} {r : Resume} {l : List Value} {α : Type} {k : GenResult → Sem α} {Q : α → Shared → Prop}
    (hg : s.gens[g]? = some gs) (hgo : gs.Goes M A R Y n r (s.setGen g .running))
    (hR : ∀ x s₁, R n (s.setGen g .running) x s₁ → wpAny M A (k (End.ret x).result) Q E (s₁.setGen g .finished))
    (hY : ∀ v s₁ gs', gs'.bare = true → isS gs' = true → Y (n - 1) (s.setGen g .running) v s₁ (fun r' s'' => later M A R Y n gs' r' s'') → wpAny M A (k (.yielded v)) Q E (s₁.setGen g gs')) :
    wpAny M A (.resume g r l k) Q E s := by
  intro Γ p hΓ
  rw [Sem.wp_resume]
  have ends : ∀ e₁ s₁, SegEnd R Y n (Seg.next M A R Y n) (s.setGen g .running) e₁ s₁ → e₁.quiet = true ∧ Sem.wp M Γ (k e₁.result) (fun a _ s' => Q a s') (fun e _ s' => E e s') p (s₁.setGen g e₁.genState) := by
    intro e₁ s₁ he
    match e₁, he with
    | .ret x, he => exact ⟨rfl, hR x s₁ he Γ p hΓ⟩
    | .susp v g₀ l₀ k₀ c₀ p₀ fs₀, he =>
      refine ⟨he.1, hY v s₁ (.suspended k₀ l₀ c₀ p₀ fs₀ (g₀ || fs₀.any Frame.guarded)) (End.bare_of_quiet (e := .susp v g₀ l₀ k₀ c₀ p₀ fs₀) he.1) rfl ?_ Γ p hΓ⟩
      match n, he with
      | 0, he => exact he.2
      | m + 1, he => exact he.2
  match gs, hg, hgo with
  | .fresh c, hg, ⟨e, hs⟩ =>
    subst e
    obtain ⟨e₁, s₁, hr, he⟩ := seg_iff.mp hs (Γ.wake c p) p rfl (hΓ.wake c p)
    obtain ⟨q1, q2⟩ := ends e₁ s₁ he
    refine ⟨_, _, ?_, q2⟩
    unfold Wakes
    rw [hg]
    exact ⟨e₁, s₁, hr, q1, rfl, rfl⟩
  | .suspended k₀ l₀ c₀ p₀ fs₀ cl, hg, hgo =>
    obtain ⟨e₁, s₁, hr, he⟩ := seg_iff.mp hgo (Γ.wake c₀ p) p₀ rfl (hΓ.wake c₀ p)
    obtain ⟨q1, q2⟩ := ends e₁ s₁ he
    refine ⟨_, _, ?_, q2⟩
    unfold Wakes
    rw [hg]
    exact ⟨e₁, s₁, hr, q1, rfl, rfl⟩
/-- next(g) -/
theorem nextS {P : Program} {w : World} {A : Around} {E : Value → Shared → Prop} {s : Shared} {a : Addr} {g n : Nat} {gs : GenState} {R : GenEnd} {Y : Protocol} {Q : Option Value → Shared → Prop} (hh : A.handled = none) (hl : s.heap.NoLimit) (hd : A.depth < recursionLimit)
    (hg : s.heap.IsGen a g) (hgs : s.gens[g]? = some gs) (hgo : gs.Goes (model P w) A.in1 R Y n (.send .none) (s.setGen g .running))
    (hR : ∀ x s₁, R n (s.setGen g .running) x s₁ → (x = .ok (.ret .none) ∨ x = .ok .next) ∧ ∀ h', (∀ b o, s₁.heap.get? b = some o → h'.get? b = some o) → Q none { s₁.setGen g .finished with heap := h' })
    (hY : ∀ v s₁ gs', gs'.bare = true → isS gs' = true → Y (n - 1) (s.setGen g .running) v s₁ (fun r' s'' => later (model P w) A.in1 R Y n gs' r' s'') → Q (some v) (s₁.setGen g gs')) :
    wpAny (model P w) A (pyNext (.ref a)) Q E s := by
  unfold pyNext
  refine wpAny_bind (wpAny_attempt (wpAny_callSpecial?_slot (name := Str.ofString "__next__") hg.typeIs slot_gen_next (wpAny_call_entry slot_gen_next hg.typeIs entry_gen_next ?_ (args_gen_next _))))
  show wpAny _ A.in1 (Builtin.Generator.genWake (.ref a) (.send .none)) _ _ s
  unfold Builtin.Generator.genWake
  refine wpAny_bind (wpAny_holding (wpAny_genNumber hg (wpAny_bind (wpAny_genState hgs ?_))))
  have awake : gs.status ≠ .running ∧ gs.status ≠ .finished := by
    cases gs with
    | running => exact hgo.elim
    | finished => exact hgo.elim
    | fresh c => exact ⟨fun z => (by cases z), fun z => (by cases z)⟩
    | suspended k l c p fs cl => exact ⟨fun z => (by cases z), fun z => (by cases z)⟩
  cases hst : gs.status with
  | running => exact absurd hst awake.1
  | finished => exact absurd hst awake.2
  | _ =>
    refine wpAny_bind (wpAny_roomToWake hl hd ?_)
    show wpAny _ A.in1 (.resume g (.send .none) [] _) _ _ s
    refine resumeS hgs hgo (fun x s₁ hx => ?_) fun v s₁ gs' hb hs hv => wpAny_pure ⟨v, rfl, wpAny_pure (hY v s₁ gs' hb hs hv)⟩
    obtain ⟨hr, hq⟩ := hR x s₁ hx
    have res : End.result (.ret x) = .returned .none := by rcases hr with hr | hr <;> rw [hr] <;> rfl
    rw [res]
    show wpAny _ A.in1 (newExc (.type "StopIteration") [] >>= _) _ _ _
    refine wpAny_bind ?_
    simp only [newExc, newTuple]
    refine wpAny_bind (wpAny_newObj_type ?_ (by size_fits))
    refine wpAny_bind (m := firstArgMember _ _) (wpAny_of_eq (a := Value.none) (by first | rfl | (simp only [firstArgMember]; rfl)) ?_)
    refine wpAny_newObj_type ?_ (by size_fits)
    simp only [raiseNew]
    refine wpAny_bind (wpAny_bind (wpAny_handled ?_))
    first | rw [show A.in1.handled = none from hh] | rw [hh]
    refine wpAny_throw (wpAny_bind (wpAny_isInstance (T := "StopIteration") (b := true) ⟨_, Heap.get?_push_size _ rfl, rfl⟩ isSubtype_stop ?_))
    exact wpAny_pure (hq _ fun b o hb => Heap.get?_push_of_some _ (Heap.get?_push_of_some _ hb))
/-! ### a heap cut -/
def cut (n : Nat) (h : Heap) : Heap := { h with objs := h.objs.extract 0 n }
theorem cut_get {n : Nat} {h : Heap} {b : Nat} : (cut n h).get? b = if b < n then h.get? b else none := by
  unfold Heap.get? cut
  show (match (h.objs.extract 0 n)[b]? with | some ⟨_, _, .freed, _⟩ => none | o => o) = _
  rw [Array.getElem?_extract]
  by_cases hb : b < n
  · rw [if_pos hb]
    by_cases hs : b < h.objs.size
    · rw [if_pos (by omega), Nat.zero_add]
      rfl
    · rw [if_neg (by omega), Array.getElem?_eq_none (by omega)]
  · rw [if_neg hb, if_neg (by omega)]
theorem cut_size {n : Nat} {h : Heap} (hn : n ≤ h.objs.size) : (cut n h).objs.size = n := by
  show (h.objs.extract 0 n).size = n
  rw [Array.size_extract]
  omega
theorem cut_some {n : Nat} {h : Heap} {b : Addr} {o : Obj} (e : (cut n h).get? b = some o) : b < n ∧ h.get? b = some o := by
  rw [cut_get] at e
  split at e
  · exact ⟨by assumption, e⟩
  · cases e
theorem cut_of {n : Nat} {h : Heap} {b : Addr} {o : Obj} (hb : b < n) (e : h.get? b = some o) : (cut n h).get? b = some o := by rw [cut_get, if_pos hb, e]
/-! ### a generator's context -/
structure GCtx (K : PySem.W.Frag) (mg : Str → Option Value) (base : Heap) (env : Env) (outer : List Env) (A : Around) (n : Nat) : Prop where
  mod : Mod K mg base
  kind : env.scope.kind = .function
  glob : env.globals = mainGlobals
  blt : env.builtins = builtinsNs
  loc : env.locals = n
  frame : env.frame = some n
  nocell : ∀ x, env.cells.lookup x = none
  nokind : ∀ x, ¬ (env.kindOf x = some .cell ∨ env.kindOf x = some .free)
  hd : A.handled = none
  frames : A.frames = some (env :: outer)
  bsz : base.objs.size ≤ n
  low : ∀ b ∈ frs outer, b < n
/-- behind the wake -/
def gx (P : Program) (w : World) (K : PySem.W.Frag) (mg : Str → Option Value) (base : Heap) (N : List Str) (env : Env) (outer : List Env) (A : Around) (s₀ : Shared) (H₀ : Hp) : Cx where
  prog := P
  w := w
  K := K
  mg := mg
  base := base
  A := A
  N := N
  s_0 := s₀
  H_0 := H₀
  env := env
  outer := outer
  stack := env :: outer
  ex := []
  fn := fun _ => true
  calm := true
  pn := []
  xe := fun _ _ => False
/-- all that stands is frozen, but the generator's frame, the callers' frames, what stood at the law's entry; nd: what the generator reads -/
def Hg (n : Nat) (base : Heap) (outer : List Env) (nd : Addr → Option HO) (h : Heap) : Hp := fun b => if b = n ∨ (base.get? b).isSome = true ∨ b ∈ frs outer then none else (h.get? b).map fun o => .frz o ((nd b).getD (.ext fun _ => True))
section
variable {P : Program} {w : World} {K : PySem.W.Frag} {mg : Str → Option Value} {base : Heap} {N : List Str} {env : Env} {outer : List Env} {A : Around} {n : Nat} {nd : Addr → Option HO} {s s1 : Shared} {σ : L2.St}
theorem Hg_none {h : Heap} {b : Addr} (c : b = n ∨ (base.get? b).isSome = true ∨ b ∈ frs outer) : Hg n base outer nd h b = none := if_pos c
theorem Hg_some {h : Heap} {b : Addr} {o : Obj} (e : h.get? b = some o) (c : ¬ (b = n ∨ (base.get? b).isSome = true ∨ b ∈ frs outer)) : Hg n base outer nd h b = some (.frz o ((nd b).getD (.ext fun _ => True))) := by
  unfold Hg
  rw [if_neg c, e]
  rfl
theorem Hg_frz {h : Heap} {b : Addr} {u : HO} (e : Hg n base outer nd h b = some u) : ∃ o, h.get? b = some o ∧ u = .frz o ((nd b).getD (.ext fun _ => True)) := by
  unfold Hg at e
  split at e
  · cases e
  · cases q : h.get? b with
    | none =>
      rw [q] at e
      cases e
    | some o =>
      rw [q] at e
      exact ⟨o, rfl, (Option.some.inj e).symm⟩
/-- what stands at a wake -/
structure Wk (base : Heap) (outer : List Env) (n : Nat) (s : Shared) : Prop where
  bs : ∀ b o, base.get? b = some o → s.heap.get? b = some o
  size : n < s.heap.objs.size
  funs : s.heap.FunFrames base outer
  bare : AllBare s.gens
/-- the generator's names -/
def Lc (N : List Str) (env : Env) (σ : L2.St) (h : Heap) : Prop := ∃ m, h.Ns env.locals m ∧ ∀ (i : Nat) (x : Str) (v : V), N[i]? = some x → σ[i]? = some (some v) → Vis env.scope x → ∃ u, RelV v u ∧ Look env h m x u
theorem funs_cut {h : Heap} : ∀ {l : List Env}, (∀ b ∈ frs l, b < n) → h.FunFrames base l → (cut n h).FunFrames base l
  | [], _, _ => trivial
  | env :: r, hl, hf => by
    obtain ⟨k, ⟨L, o, e1, e2, e3, e4⟩, q⟩ := hf
    have hb : ∀ b ∈ frs r, b < n := fun b hb => hl b (by
      unfold frs
      rw [List.filterMap_cons, e1]
      exact List.mem_cons_of_mem _ hb)
    have hL : L < n := hl L (by
      unfold frs
      rw [List.filterMap_cons, e1]
      exact List.mem_cons_self)
    exact ⟨k, ⟨L, o, e1, e2, cut_of hL e3, e4⟩, funs_cut hb q⟩
theorem gwake (G : GCtx K mg base env outer A n) (W : Wk base outer n s) (L : Lc N env σ s.heap) (hl : σ.length = N.length) (nok : ∀ b u, nd b = some u → ObjOk P w (Hg n base outer nd s.heap) s.heap b u) :
    Inv (gx P w K mg base N env outer A { s with heap := cut n s.heap } (Hg n base outer nd s.heap)) [] σ (Hg n base outer nd s.heap) s := by
  have sz : (cut n s.heap).objs.size = n := cut_size (Nat.le_of_lt W.size)
  have bl : ∀ b o, base.get? b = some o → b < n := fun b o e => Nat.lt_of_lt_of_le (Heap.lt_size e) G.bsz
  refine ⟨⟨G.mod, G.kind, G.glob, G.blt, ?_, fun x y c h => ?_, fun x hx => (G.nokind x hx).elim, fun x c _ h => ?_, fun _ => G.hd, G.frames, .inr ⟨rfl, ?_⟩, fun b z => (nomatch (show b ∈ ([] : List Addr) from z)), fun b o e => ⟨cut_of (bl b o e) (W.bs b o e), Hg_none (.inr (.inl (by rw [show base.get? b = some o from e]; rfl)))⟩, ?_,
      fun b o e z => (nomatch (show b ∈ ([] : List Addr) from z)), fun b z => (nomatch (show b ∈ ([] : List Addr) from z)), funs_cut G.low W.funs, fun b hb => Hg_none (.inr (.inr hb))⟩,
    rfl, W.bare, ⟨fun b o e _ _ _ => (cut_some e).2, fun b o e _ _ _ => ⟨o.slots, (cut_some e).2⟩, fun b o e h _ => h, fun b o e _ => ⟨o, (cut_some e).2⟩, fun _ _ h => h, fun _ _ _ h => h, fun b ps h => ⟨#[], by rw [show Hg n base outer nd s.heap b = some (.tbl ps) from h]; simp⟩⟩,
    L, fun x c h => ?_, Hg_none (.inl G.loc), fun x c h => ?_, fun p hp => (nomatch (show p ∈ ([] : List (Addr × Obj)) from hp)), fun b u e => ?_, hl⟩
  · show (cut n s.heap).objs.size ≤ env.locals
    rw [sz, G.loc]
    exact Nat.le_refl _
  · have h' : env.cells.lookup x = some c := h
    rw [G.nocell x] at h'
    cases h'
  · have h' : env.cells.lookup x = some c := h
    rw [G.nocell x] at h'
    cases h'
  · show env.frame = some env.locals
    rw [G.frame, G.loc]
  · show base.objs.size ≤ (cut n s.heap).objs.size
    rw [sz]
    exact G.bsz
  · have h' : env.cells.lookup x = some c := h
    rw [G.nocell x] at h'
    cases h'
  · have h' : env.cells.lookup x = some c := h
    rw [G.nocell x] at h'
    cases h'
  · obtain ⟨o, e1, rfl⟩ := Hg_frz e
    refine ⟨e1, ?_⟩
    cases q : nd b with
    | none => exact ⟨trivial, ⟨o, e1⟩, fun _ _ h _ => h⟩
    | some u => exact nok b u q
/-- kept by a segment: all but the generator's frame; the callers' frames up to slots -/
def Kp (n : Nat) (outer : List Env) (h h1 : Heap) : Prop := ∀ b o, h.get? b = some o → b ≠ n → (b ∉ frs outer → h1.get? b = some o) ∧ (b ∈ frs outer → ∃ sl, h1.get? b = some { o with slots := sl })
theorem gkeep {pins : List (Addr × Obj)} {σ' : L2.St} {H' : Hp} (G : GCtx K mg base env outer A n) (W : Wk base outer n s) (I : Inv (gx P w K mg base N env outer A { s with heap := cut n s.heap } (Hg n base outer nd s.heap)) pins σ' H' s1) : Kp n outer s.heap s1.heap := by
  intro b o e ne
  cases q : base.get? b with
  | some o' =>
    have e2 := W.bs b o' q
    rw [e] at e2
    cases e2
    exact ⟨fun _ => (I.bs b o q).1, fun hb => (I.ok.nofr q hb).elim⟩
  | none =>
    refine ⟨fun hb => ?_, fun hb => ?_⟩
    · have hs := Hg_some (n := n) (base := base) (outer := outer) (nd := nd) e (by
        rintro (z | z | z)
        · exact ne z
        · rw [q] at z
          cases z
        · exact hb z)
      exact (I.hok b _ (I.base.frzs b _ _ hs)).1
    · exact I.base.slot b o (cut_of (G.low b hb) e) (Hg_none (.inr (.inr hb))) hb (fun z => nomatch (show b ∈ ([] : List Addr) from z))
/-- a place where a new object may have been laid -/
def New (n : Nat) (base : Heap) (outer : List Env) (h : Heap) (t : Addr) : Prop := ∀ o, h.get? t = some o → t = n ∨ (base.get? t).isSome = true ∨ t ∈ frs outer
theorem new_of {h : Heap} {t : Addr} (e : Hg n base outer nd h t = none) : New n base outer h t := fun o q => by
  refine Classical.byContradiction fun c => ?_
  rw [Hg_some q c] at e
  cases e
end
end Gn
/-! Generators that are woken one by one: the stream of what they hand out; their consumer. -/
namespace Gn
open PySem PySem.Spec PyProof.Rows L2 GenW
open Mf (isS KeepS Real)
theorem setGen_ne {s : Shared} {g i : Nat} {x : GenState} (h : i ≠ g) : (s.setGen g x).gens[i]? = s.gens[i]? := by
  rw [Mf.get_setGen, if_neg (Ne.symm h)]
theorem setGen_eq {s : Shared} {g : Nat} {x : GenState} (h : g < s.gens.size) : (s.setGen g x).gens[g]? = some x := by
  rw [Mf.get_setGen, if_pos rfl, if_pos h]
/-- what is fixed of a generator: its base, the callers, its frame, how many wakes are spoken of; what stands of its own before wake j; what it reads; what wake j hands out; its end -/
structure Gd where
  base : Heap
  outer : List Env
  n : Nat
  F : Nat
  os : OsState
  Own : Nat → Heap → Prop
  Nd : Heap → Prop
  Jt : Nat → Value → Heap → Heap → Prop
  Ed : Nat → Heap → Heap → Prop
section
variable (d : Gd)
def Gd.Rd (j : Nat) (s : Shared) : Prop := Wk d.base d.outer d.n s ∧ s.os = d.os ∧ d.Own j s.heap ∧ d.Nd s.heap
structure Gd.Step (s₀ s1 : Shared) : Prop where
  kp : Kp d.n d.outer s₀.heap s1.heap
  os : s1.os = s₀.os
  bare : AllBare s1.gens
  gens : s1.gens = s₀.gens
def Gd.Y : Protocol := fun m s₀ v s1 kap => d.Step s₀ s1 ∧ d.Own (d.F - 1 - m + 1) s1.heap ∧ d.Jt (d.F - 1 - m) v s₀.heap s1.heap ∧ (d.F - 1 - m + 1 < d.F → ∀ s2, d.Rd (d.F - 1 - m + 1) s2 → kap (.send .none) s2)
def Gd.R : GenEnd := fun n s₀ r s1 => r = .ok (.ret .none) ∧ d.Step s₀ s1 ∧ d.Ed (d.F - n) s₀.heap s1.heap
/-- the generator g with its object at a stands before wake j -/
def Gd.TN (P : Program) (w : World) (A : Around) (a : Addr) (g : Nat) (j : Nat) (s : Shared) : Prop :=
  s.heap.IsGen a g ∧ d.Own j s.heap ∧ ∃ gs, s.gens[g]? = some gs ∧ gs.bare = true ∧ (0 < j → isS gs = true) ∧ (j < d.F → ∀ s2, d.Rd j s2 → gs.Goes (model P w) A d.R d.Y (d.F - j) (.send .none) s2)
end
section
variable {d : Gd} {P : Program} {w : World} {A : Around} {E : Value → Shared → Prop} {s : Shared} {a : Addr} {g j : Nat}
theorem bare_set {s : Shared} {g : Nat} {x : GenState} (h : AllBare s.gens) (hx : x.bare = true) : AllBare (s.setGen g x).gens := allBare_setGen h hx
/-- wake j -/
theorem Gd.next {Q : Option Value → Shared → Prop} (T : d.TN P w A.in1 a g j s) (hh : A.handled = none) (hd : A.depth < recursionLimit) (hl : s.heap.NoLimit) (hj : j < d.F) (W : Wk d.base d.outer d.n s) (ho : s.os = d.os) (N : d.Nd s.heap)
    (an : a ≠ d.n) (af : a ∉ frs d.outer)
    (hQ : ∀ v s1, Kp d.n d.outer s.heap s1.heap → s1.os = s.os → AllBare s1.gens → (∀ i, i ≠ g → s1.gens[i]? = s.gens[i]?) → d.TN P w A.in1 a g (j + 1) s1 → d.Jt j v s.heap s1.heap → Q (some v) s1)
    (hE : ∀ s1, Kp d.n d.outer s.heap s1.heap → s1.os = s.os → AllBare s1.gens → (∀ i, i ≠ g → s1.gens[i]? = s.gens[i]?) → (∃ h, d.Ed j s.heap h ∧ ∀ b o, h.get? b = some o → s1.heap.get? b = some o) → Q none s1) :
    wpAny (model P w) A (pyNext (.ref a)) Q E s := by
  obtain ⟨hg, own, gs, hgs, hb, hs, hgo⟩ := T
  have gl : g < s.gens.size := (Array.getElem?_eq_some_iff.mp hgs).1
  have rd : d.Rd j (s.setGen g .running) := ⟨⟨W.bs, W.size, W.funs, bare_set W.bare rfl⟩, ho, own, N⟩
  obtain ⟨m, hm⟩ : ∃ m, d.F - j = m + 1 := ⟨d.F - j - 1, by omega⟩
  have ej : d.F - 1 - m = j := by omega
  have others : ∀ {s₁ : Shared} {x : GenState}, s₁.gens = (s.setGen g .running).gens → ∀ i, i ≠ g → (s₁.setGen g x).gens[i]? = s.gens[i]? := fun {s₁ x} e i hi => by
    rw [setGen_ne hi, e, setGen_ne hi]
  have siz : ∀ {s₁ : Shared}, s₁.gens = (s.setGen g .running).gens → g < s₁.gens.size := fun {s₁} e => by
    rw [e, setGen_size]
    exact gl
  refine nextS hh hl hd hg hgs (hgo hj _ rd) (fun x s₁ hx => ?_) fun v s₁ gs' hb' hs' hv => ?_
  · obtain ⟨e, st, ed⟩ := hx
    refine ⟨.inl e, fun h' hk => ?_⟩
    refine hE _ (fun b o q ne => ?_) st.os (bare_set st.bare rfl) (others st.gens) ⟨s₁.heap, ?_, hk⟩
    · obtain ⟨k1, k2⟩ := st.kp b o q ne
      exact ⟨fun hb => hk _ _ (k1 hb), fun hb => let ⟨sl, e⟩ := k2 hb; ⟨sl, hk _ _ e⟩⟩
    · have z : d.F - (d.F - j) = j := by omega
      rw [z] at ed
      exact ed
  · rw [hm] at hv
    obtain ⟨st, own', jt, kap⟩ := hv
    have z : m + 1 - 1 = m := rfl
    rw [z, ej] at own' jt kap
    refine hQ v _ st.kp st.os (bare_set st.bare hb') (others st.gens) ⟨?_, own', gs', setGen_eq (siz st.gens), hb', fun _ => hs', fun hj' s2 r2 => ?_⟩ jt
    · obtain ⟨o, nm, qn, e1, e2⟩ := hg
      exact ⟨o, nm, qn, (st.kp a o e1 an).1 af, e2⟩
    · have y := kap hj' s2 r2
      have z2 : d.F - (j + 1) = m := by omega
      rw [z2]
      exact y
end
/-! ### the consumer -/
section
variable {X : Cx} {pins : List (Addr × Obj)} {σ : L2.St} {H : Hp} {s s1 : Shared} {n : Nat}
/-- behind a segment; a new tuple may have come -/
theorem inv_fed {H' : Hp} (I : Inv X pins σ H s) (K : Kp n X.stack s.heap s1.heap) (os : s1.os = s.os) (hb : AllBare s1.gens) (f : FpOk X pins H n)
    (hn : ∀ b u, H b = some u → H' b = some u) (hnew : ∀ b u, H' b = some u → H b = none → s.heap.get? b = none ∧ ObjOk X.prog X.w H' s1.heap b u) : Inv X pins σ H' s1 := by
  obtain ⟨f0, f1, f2, f3, f4, f5⟩ := f
  have off : ∀ {b : Addr}, b ≠ X.env.locals → b ∉ X.fs → b ∉ frs X.stack := fun {b} h1 h2 h3 => by
    rcases List.mem_cons.mp (I.stkSub b h3) with z | z
    · exact h1 z
    · exact h2 z
  have slotted : ∀ {b : Addr} {o : Obj}, s.heap.get? b = some o → b ≠ n → ∃ sl, s1.heap.get? b = some { o with slots := sl } := fun {b o} e ne => by
    by_cases hb : b ∈ frs X.stack
    · exact (K b o e ne).2 hb
    · exact ⟨o.slots, (K b o e ne).1 hb⟩
  obtain ⟨hh, gg, dd, tt, oo⟩ := s1
  obtain rfl : oo = s.os := os
  refine I.step (g' := gg) (t' := tt) (d' := dd) (ch := [n]) (fun b hb => ?_) (fun b o h1 h2 h3 e _ => ?_) (fun b o h1 h2 h3 e _ => slotted e (by simpa using h3)) (fun b o h1 e h => ?_) (fun b o h1 e => ?_) (fun b xs e => hn b _ e) (fun b o u e => hn b _ e)
    (fun b ps e => ⟨#[], by rw [hn b _ e]; simp⟩) (fun m hm => ?_) (fun b u e => ?_) hb
  · obtain rfl : b = n := by simpa using hb
    exact ⟨f3, f1, f4, f5⟩
  · exact (K b o e (by simpa using h3)).1 (off h1 h2)
  · cases q : H' b with
    | none => rfl
    | some u =>
      have z := (hnew b u q h).1
      rw [e] at z
      cases z
  · obtain ⟨sl, z⟩ := slotted e (by simpa using h1)
    exact ⟨_, z⟩
  · obtain ⟨o, es, ep, e, r⟩ := hm
    obtain ⟨sl, z⟩ := slotted e (Ne.symm f1)
    exact ⟨_, es, ep, z, r⟩
  · cases q : H b with
    | none => exact (hnew b u e q).2
    | some u' =>
      have z := hn b u' q
      rw [e] at z
      cases z
      have tr : ∀ c, (∃ v, H c = some v) → ∀ o, s.heap.get? c = some o → hh.get? c = some o := fun c ⟨v, hv⟩ o e => (K c o e (fun z => by rw [z, f0] at hv; cases hv)).1 fun z => by
        rw [I.stkFree c z] at hv
        cases hv
      refine (I.hok b u q).stay (fun c v hc y => tr c ?_ v y) (fun c y => hn c _ y) fun c xs y => hn c _ y
      rcases hc with rfl | hc
      · exact ⟨u, q⟩
      · exact ⟨_, hc⟩
/-- code of the hand layer beside sleeping generators -/
theorem framed {α : Type} {t : Sem α} {P : α → Shared → Prop} {E : Value → Shared → Prop} (hx : ∀ Γ : PySem.Ctx, Γ.In X.A → ∀ e s₁, X.xe e s₁ → False) (I : Inv X pins σ H s)
    (h : ∀ s₀ : Shared, Inv X pins σ H s₀ → wpAny (model X.prog X.w) X.A t P X.xe s₀)
    (hP : ∀ a (s₁ s' : Shared), s'.heap = s₁.heap → s'.os = s₁.os → (AllBare s₁.gens → AllBare s'.gens) → P a s₁ → P a s') : wpAny (model X.prog X.w) X.A t (fun a s' => P a s' ∧ KeepS s s') E s := by
  have I0 : Inv X pins σ H (Mf.dms s) := ⟨I.ok, I.os, Mf.bare_dms I.bare, I.base, I.loc, I.cell, I.free, I.freeC, I.pin, I.hok, I.len⟩
  exact thn (Mf.wpAny_keep (h _ I0) hx) fun a s' ⟨s₁, r, q⟩ => ⟨hP a s₁ s' r.heap r.os r.bare q, r.keep⟩
theorem inv_real {s' : Shared} (I : Inv X pins σ H s1) (h : s'.heap = s1.heap) (o : s'.os = s1.os) (b : AllBare s1.gens → AllBare s'.gens) : Inv X pins σ H s' := by
  obtain ⟨hh, gg, dd, tt, oo⟩ := s'
  obtain rfl : hh = s1.heap := h
  obtain rfl : oo = s1.os := o
  exact ⟨I.ok, I.os, b I.bare, I.base, I.loc, I.cell, I.free, I.freeC, I.pin, I.hok, I.len⟩
theorem sp_real {D : Ends} {f : Flow} {s' : Shared} (h : SP X pins D f s1) (e : s'.heap = s1.heap) (o : s'.os = s1.os) (b : AllBare s1.gens → AllBare s'.gens) : SP X pins D f s' := by
  cases f with
  | next =>
    obtain ⟨σ', H', I, q⟩ := h
    exact ⟨σ', H', inv_real I e o b, q⟩
  | brk =>
    obtain ⟨σ', H', I, q⟩ := h
    exact ⟨σ', H', inv_real I e o b, q⟩
  | cont =>
    obtain ⟨σ', H', I, q⟩ := h
    exact ⟨σ', H', inv_real I e o b, q⟩
  | ret u =>
    obtain ⟨v, σ', H', I, r, q⟩ := h
    exact ⟨v, σ', H', inv_real I e o b, r, q⟩
end
/-! ### for .. in a generator -/
/-- at turn i, over states -/
structure TurnS (X : Cx) (J : It) (fp : List Addr) (it : Addr) (tn : Nat → Shared → Prop) : Prop where
  obj : ∀ i s, tn i s → ∀ b ∈ fp, ∃ o, s.heap.get? b = some o ∧ ∀ v, o.data ≠ .cell v
  keep : ∀ i s s', 0 < i → tn i s → (∀ b ∈ fp, ∀ o, s.heap.get? b = some o → s'.heap.get? b = some o) → KeepS s s' → tn i s'
  item : ∀ (i : Nat) (pins : List (Addr × Obj)) (s : Shared) (σ : L2.St) (H : Hp) (E : Value → Shared → Prop), Inv X pins σ H s → (∀ b ∈ fp, FpOk X pins H b) → tn i s → J.go i H →
    wpAny (model X.prog X.w) X.A (pyNext (.ref it)) (fun r s1 => ∃ u x H', r = some u ∧ Inv X pins σ H' s1 ∧ RelV x u ∧ J.yld i H x H' ∧ tn (i + 1) s1 ∧ ∀ b ∈ fp, H' b = none) E s
/-- an iterator over states has come -/
def PIS (X : Cx) (iter : Expr) (wi : TI) : Prop := ∀ (pins : List (Addr × Obj)) (s : Shared) (σ : L2.St) (H : Hp) (R : It → Hp → Prop), Inv X pins σ H s → wi σ H R →
  wpAny (model X.prog X.w) X.A (eval iter X.env) (fun v s1 => wpAny (model X.prog X.w) X.A (pyIter v) (fun itv s2 => ∃ (it : Addr) (fp : List Addr) (tn : Nat → Shared → Prop) (J : It) (H' : Hp), itv = .ref it ∧ Inv X pins σ H' s2 ∧
    (∀ i s, tn i s → ∃ o vs, s.heap.get? it = some o ∧ o.cls = .type "generator" ∧ o.data = .fields vs) ∧
    TurnS X J fp it tn ∧ tn 0 s2 ∧ (∀ b ∈ fp, FpOk X pins H' b) ∧ (∀ i H, ¬ J.stop i H) ∧ R J H') X.xe s1) X.xe s
theorem ps_forS {X : Cx} {tg iter : Expr} {body : List Stmt} {wi : TI} {g : TG} {tb : TS} {pos : Pos} (hx : ∀ Γ : PySem.Ctx, Γ.In X.A → ∀ e s₁, X.xe e s₁ → False) (hi : PIS X iter wi) (hg : PG X tg g) (hb : PSs X body tb)
    (hs : ∀ x, foldedSetIterable iter X.env x = pure x := by intro _; rfl) : PS X (.For tg iter body [] pos) (tFor wi g tb) := by
  refine ⟨fun pins s σ H D I h => ?_⟩
  refine wpAny_For (thn (hi pins s σ H _ I h) fun v s1 h1 => thn h1 fun itv s2 h2 => ?_) hs
  obtain ⟨it, fp, tn, J, H2, e, I2, og, T, st2, f2, ns, W, ⟨m0, w0⟩, turn⟩ := h2
  subst e
  have stat : ∀ {H' : Hp}, (∀ b ∈ fp, H' b = none) → ∀ b ∈ fp, FpOk X pins H' b := fun hn b hb => ⟨hn b hb, (f2 b hb).2⟩
  refine codeAny_forLoop_any (fun n s' => ∃ i σ' H', Inv X pins σ' H' s' ∧ tn i s' ∧ (∀ b ∈ fp, H' b = none) ∧ W i n σ' H') ?_ m0 ⟨0, σ, H2, I2, st2, fun b hb => (f2 b hb).1, w0⟩
  rintro n s3 ⟨i, σ3, H3, I3, st3, fr3, w3⟩
  rcases turn i n σ3 H3 w3 with ⟨stop, qn⟩ | ⟨go, N, hN, step⟩
  · exact (ns i H3 stop).elim
  · refine thn (T.item i pins s3 σ3 H3 _ I3 (stat fr3) st3 go) fun r s5 ⟨u, x, H5, hr, I5, r5, y5, st5, fr5⟩ => ?_
    subst hr
    obtain ⟨og1, vs, og2, og3, og4⟩ := og _ _ st5
    refine go_of og2 og3 og4 (by decide) ?_
    have I5' := I5.pinned (stat fr5) (T.obj _ _ st5)
    refine thn (framed hx I5' (fun s₀ I₀ => hg.run _ s₀ σ3 H5 x u _ I₀ r5 (step x H5 y5)) fun _ s₁ s' a b c ⟨σ', H', J, q⟩ => ⟨σ', H', inv_real J a b c, q⟩) fun _ s6 ⟨⟨σ6, H6, I6, q6⟩, k6⟩ => ?_
    refine thn (framed hx I6 (fun s₀ I₀ => hb.run _ s₀ σ6 H6 _ I₀ q6) fun f s₁ s' a b c q => sp_real q a b c) fun f s7 ⟨q7, k7⟩ => ?_
    have again : ∀ {σ7 : L2.St} {H7 : Hp}, Inv X (pins ++ pinsAt fp s5.heap) σ7 H7 s7 → N σ7 H7 → ∃ m, m < n ∧ ∃ i σ' H', Inv X pins σ' H' s7 ∧ tn i s7 ∧ (∀ b ∈ fp, H' b = none) ∧ W i m σ' H' := fun {σ7 H7} I7 n7 => by
      obtain ⟨m', hm, w7⟩ := hN σ7 H7 n7
      refine ⟨m', hm, i + 1, σ7, H7, I7.unpinned, T.keep _ _ _ (Nat.succ_pos i) st5 (fun b hb o e => (I7.pin (b, o) (List.mem_append_right _ (List.mem_append_right _ (mem_pinsAt hb e)))).1) (k6.trans k7), fun b hb => ?_, w7⟩
      obtain ⟨o, e, d⟩ := T.obj _ _ st5 b hb
      exact (I7.pin (b, o) (List.mem_append_right _ (List.mem_append_right _ (mem_pinsAt hb e)))).2.1
    cases f with
    | next =>
      obtain ⟨σ7, H7, I7, n7⟩ := q7
      exact again I7 n7
    | cont =>
      obtain ⟨σ7, H7, I7, n7⟩ := q7
      exact again I7 n7
    | brk =>
      obtain ⟨σ7, H7, I7, q7⟩ := q7
      exact ⟨σ7, H7, I7.unpinned, q7⟩
    | ret v =>
      obtain ⟨x7, σ7, H7, I7, r7, q7⟩ := q7
      exact ⟨x7, σ7, H7, I7.unpinned, r7, q7⟩
theorem obj_some {P : Program} {w : World} {H : Hp} {h : Heap} {a : Addr} : ∀ {o : HO}, ObjOk P w H h a o → ∃ ob, h.get? a = some ob
  | .lst _, ⟨_, _, _, _, e⟩ => ⟨_, e⟩
  | .tup _, ⟨_, _, _, ob, e, _⟩ => ⟨ob, e⟩
  | .dK _, ⟨_, _, _, _, ob, _, _, e, _⟩ => ⟨ob, e⟩
  | .dT _, ⟨_, _, _, _, ob, _, _, e, _⟩ => ⟨ob, e⟩
  | .set _ _, ⟨ob, _, _, _, e, _⟩ => ⟨ob, e⟩
  | .ins _ _ _, ⟨_, _, _, e, _⟩ => ⟨_, e⟩
  | .own _, ⟨ob, e⟩ => ⟨ob, e⟩
  | .xd _, ⟨_, ⟨ob, _, _, e, _⟩, _⟩ => ⟨ob, e⟩
  | .rng _ _, ⟨_, _, _, e⟩ => ⟨_, e⟩
  | .frz ob _, ⟨e, _⟩ => ⟨ob, e⟩
  | .tbl _, e => ⟨_, e⟩
  | .met _ _, e => ⟨_, e⟩
  | .ext _, ⟨_, e, _⟩ => e
end Gn
/-! A generator def: its call; its statements between two wakes; the stream of a call in a for. -/
namespace Gn
open PySem PySem.Spec PyProof.Rows L2 GenW
open Mf (isS KeepS Real)
theorem cells_none : ∀ (l : List (Str × NameKind)) (n : Nat) (acc : List (Str × Addr)), (∀ y ∈ l, y.2 ≠ .cell) → cellsFrom n l acc = acc
  | [], _, _, _ => rfl
  | (x, k) :: r, n, acc, h => by
    have hk : (k == NameKind.cell) = false := by
      have := h (x, k) (List.mem_cons_self ..)
      cases k <;> first | rfl | exact absurd rfl this
    unfold cellsFrom
    rw [hk, if_neg Bool.false_ne_true]
    exact cells_none r n acc fun y hy => h y (List.mem_cons_of_mem _ hy)
/-- all names plain -/
def Plain (sc : Scope) : Prop := ∀ y ∈ sc.names, y.2 ≠ .cell ∧ y.2 ≠ .free
theorem gctx {K : PySem.W.Frag} {mg : Str → Option Value} {base : Heap} {A : Around} {outer : List Env} {qual : Str} {sc : Scope} {n f : Addr} {cd : Value} (hm : Mod K mg base) (hk : sc.kind = .function) (hp : Plain sc) (hd : A.handled = none) (hfr : A.frames = some outer)
    (bsz : base.objs.size ≤ n) (low : ∀ b ∈ frs outer, b < n) : GCtx K mg base (envOfC qual sc n f cd) outer (A.deeper (envOfC qual sc n f cd)) n where
  mod := hm
  kind := hk
  glob := rfl
  blt := rfl
  loc := rfl
  frame := rfl
  nocell := fun x => by
    show (cellsFrom (n + 1) sc.names []).lookup x = none
    rw [cells_none _ _ _ fun y hy => (hp y hy).1]
    rfl
  nokind := fun x h => by
    have h' : sc.names.lookup x = some .cell ∨ sc.names.lookup x = some .free := h
    rcases h' with e | e
    · exact (hp _ (PySem.mem_of_lookup e)).1 rfl
    · exact (hp _ (PySem.mem_of_lookup e)).2 rfl
  hd := hd
  frames := Around.frames_deeper hfr
  bsz := bsz
  low := low
theorem Lc.keep {N : List Str} {env : Env} {σ : L2.St} {h h' : Heap} (L : Lc N env σ h) (nc : ∀ x, env.cells.lookup x = none) (k : ∀ o, h.get? env.locals = some o → h'.get? env.locals = some o) : Lc N env σ h' := by
  obtain ⟨m, hn, hl⟩ := L
  refine ⟨m, hn.at' k, fun i x v e1 e2 e3 => ?_⟩
  obtain ⟨u, r, l⟩ := hl i x v e1 e2 e3
  refine ⟨u, r, ?_⟩
  rcases l with l | ⟨_, c, e, _⟩
  · exact .inl l
  · rw [nc x] at e
    cases e
/-- a call of a generator def: nothing runs yet -/
theorem made {P : Program} {w : World} {K : PySem.W.Frag} {mg : Str → Option Value} {base : Heap} {x qual : Str} {params : Arguments} {body : List Stmt} {scope : Scope} {dvs : List V} {kws : List (Str × V)} {f : Addr} {fd : FuncData} {N ps : List Str} {k : Nat}
    (F : FunD K x qual params body scope dvs kws f fd) (S : GScope N ps scope) {A : Around} {outer : List Env} {s : Shared} {H : Hp} {args : Args} {us : List Value} {vs : List V} {R : Result → Shared → Prop} (hr : Room k A) (e0 : Env0 P w K mg base A outer s H) (hb : BindsTo s fd args (ps.zip us)) (r : Vals vs us) (hl : vs.length = ps.length)
    (h : ∀ cdv s' a, s'.os = s.os → s'.gens = s.gens.push (.fresh (.func body (envOfC qual scope s.heap.objs.size f cdv))) → (∀ b o, s.heap.get? b = some o → s'.heap.get? b = some o) → s'.heap.IsGen a s.gens.size → s.heap.objs.size < a → Lc N (envOfC qual scope s.heap.objs.size f cdv) (start N vs) s'.heap → R (.ok (.ret (.ref a))) s') :
    codeAny (model P w) A (.call (.ref f) args) R s := by
  obtain ⟨oc, od, dV, kV, doc, pm, an, cdv, ct, osl, rfl, lk, hcd, _, _⟩ := F.ex
  have KX : K.In s.heap := e0.mod.kin.keeps fun b o e => (e0.bs b o e).1
  have lim : s.heap.NoLimit := e0.mod.nolimit.keeps fun b o e => (e0.bs b o e).1
  have kinds : ∀ y ∈ ps.zip us, scope.names.lookup y.1 = some .local ∨ (scope.names.lookup y.1 = some .cell ∧ ((cellsFrom (s.heap.objs.size + 1) scope.names []).lookup y.1).isSome = true) := fun ⟨n, v⟩ hy => by
    rcases S.par n (List.of_mem_zip hy).1 with q | q
    · exact .inl q
    · exact .inr ⟨q, PySem.W.cellsFrom_some _ _ _ (.inl q)⟩
  refine codeAny_call_generator hr.depth (KX _ _ lk) rfl S.co S.gen rfl (PySem.W.codeRec_of KX hcd) (hb _ _ _ _ ?_)
  refine wpAny_newFunctionEnv_cells S.kind kinds fun env he s1 x => ?_
  subst he
  refine ⟨lim.keeps x.toInCall.keep, ?_⟩
  have I1 : Inv (gcxOf P w K mg base N qual scope f cdv A outer s H (fun _ _ _ => False) []) [] (start N vs) H s1 := inv_startG S hr.hd e0 hl r x
  obtain ⟨h1, tk, es1, hk1⟩ := x.done
  have os1 : s1.os = s.os := by rw [es1]
  have gen1 : s1.gens = s.gens := by rw [es1]
  have lt1 : s.heap.objs.size < s1.heap.objs.size := x.toInCall.ns.lt
  have push : ∀ (o : Obj) b u, s1.heap.get? b = some u → (s1.heap.push o).get? b = some u := fun o b u e => Heap.get?_push_of_some _ e
  have main : ∀ (go : Obj) (nm qn : Value) (tk2 : Nat), go.cls = .type "generator" → go.data = .fields #[.int s1.gens.size 0, nm, qn] → go.slots = #[] → (s1.heap.push go).get? s1.heap.objs.size = some go →
      R (.ok (.ret (.ref s1.heap.objs.size))) { s1 with gens := s1.gens.push (.fresh (.func body (envOfC qual scope s.heap.objs.size f cdv))), toks := tk2, heap := s1.heap.push go } := by
    intro go nm qn tk2 q1 q2 q3 q4
    refine h cdv _ s1.heap.objs.size os1 (by rw [gen1]) (fun b o e => push go b o (x.toInCall.keep b o e)) ⟨go, nm, qn, q4, q1, by rw [q2, gen1], q3⟩ lt1 ?_
    obtain ⟨m, hn, hl'⟩ := I1.loc
    refine ⟨m, hn.at' fun o e => push go _ o e, fun i y v e1 e2 e3 => ?_⟩
    obtain ⟨u, rv, l⟩ := hl' i y v e1 e2 e3
    refine ⟨u, rv, ?_⟩
    rcases l with l | ⟨kk, c, e, z⟩
    · exact .inl l
    · obtain ⟨oc, ho, hd⟩ := z
      exact .inr ⟨kk, c, e, oc, push go _ _ ho, hd⟩
  exact main _ _ _ _ rfl rfl rfl (Heap.get?_push_size _ rfl)
/-! ### statements of a generator -/
section
variable {X : Cx} {A : Around} {R : GenEnd} {Y : Protocol} {m : Nat} {s₀ s : Shared} {c : Code} {fs : List Frame} {K : Flow → Sem PySem.Fin} {J : Value → Sem PySem.Fin} {gd : Bool → Bool} {lv : List Value → List Value} {pins : List (Addr × Obj)} {σ : L2.St} {H : Hp}
theorem seg_st {st : Stmt} {t : TS} {D : Ends} (h : Gk.PS X st t) (ho : A.over c fs = X.A) (hx : ∀ e s, X.xe e s → False) (I : Inv X pins σ H s) (q : t D σ H)
    (k : ∀ f s', Gk.Eq' s s' → SP X pins D f s' → Seg (model X.prog X.w) A R Y m s₀ c (K f) fs s') : Seg (model X.prog X.w) A R Y m s₀ c ((exec st X.env).wrap K J gd lv) fs s := by
  refine seg_wrap ?_
  rw [ho]
  exact wpAny_mono (h pins s σ H D I q) (fun f s' ⟨g, z⟩ => k f s' g z) fun e s' z => (hx e s' z).elim
theorem seg_sts {st : List Stmt} {t : TS} {D : Ends} (h : Gk.PSs X st t) (ho : A.over c fs = X.A) (hx : ∀ e s, X.xe e s → False) (I : Inv X pins σ H s) (q : t D σ H)
    (k : ∀ f s', Gk.Eq' s s' → SP X pins D f s' → Seg (model X.prog X.w) A R Y m s₀ c (K f) fs s') : Seg (model X.prog X.w) A R Y m s₀ c ((execs st X.env).wrap K J gd lv) fs s := by
  refine seg_wrap ?_
  rw [ho]
  exact wpAny_mono (h pins s σ H D I q) (fun f s' ⟨g, z⟩ => k f s' g z) fun e s' z => (hx e s' z).elim
theorem seg_yld {e : Expr} {yp pos : Pos} {te : TE} {Q : VK} (h : Gk.PE X e te) (ho : A.over c fs = X.A) (hx : ∀ e s, X.xe e s → False) (hfs : splitAtGen fs = none) (hgd : gd false = false) (hfg : fs.any Frame.guarded = false) (I : Inv X pins σ H s) (q : te σ H Q)
    (k : ∀ u s', Gk.Eq' s s' → EP X pins σ Q u s' → ∀ kap : Resume → Shared → Prop, (∀ s2, Seg (model X.prog X.w) A R Y m s2 c (K .next) fs s2 → kap (.send .none) s2) → Y m s₀ u s' kap) (hco : X.env.scope.isCoroutine = false := by rfl) (hi : interactive X.env = false := by rfl) :
    Seg (model X.prog X.w) A R Y (m + 1) s₀ c ((exec (.Expr (.Yield (some e) yp) pos) X.env).wrap K J gd lv) fs s := by
  refine seg_Expr_Yield hfs hgd hfg ?_ hco hi
  rw [ho]
  exact wpAny_mono (h pins s σ H Q I q) (fun u s' ⟨g, z⟩ kap hk => k u s' g z kap fun s2 z2 => hk .none s2 z2) fun e s' z => (hx e s' z).elim
theorem seg_true {j : Nat} {pc : Pos} {body : List Stmt} (ho : A.over (.whileLoop (.Constant (.bool true) j pc) body [] X.env) fs = X.A)
    (k : Seg (model X.prog X.w) A R Y m s₀ (.whileLoop (.Constant (.bool true) j pc) body [] X.env) ((execs body X.env).wrap (fun f => match f with
      | .next | .cont => .pure (.again (.whileLoop (.Constant (.bool true) j pc) body [] X.env))
      | .brk => .pure (.done .next)
      | .ret v => .pure (.done (.ret v))) (fun e => (do noteFrame e X.env; theTreesLotGoes e : Sem Unit).wrap (fun _ => .raise e) .raise id id) id id) fs s) :
    Seg (model X.prog X.w) A R Y m s₀ (.whileLoop (.Constant (.bool true) j pc) body [] X.env) ((model X.prog X.w).den (.whileLoop (.Constant (.bool true) j pc) body [] X.env)) fs s := by
  refine seg_whileLoop ?_
  rw [ho]
  refine isTrue_plain (Constant_bool (wpAny_truthy_bool ?_)) rfl
  rw [if_pos rfl]
  exact k
end
/-! ### the stream of a call -/
section
variable {d : Gd} {P : Program} {w : World} {A : Around} {a : Addr} {g j : Nat} {s s' : Shared}
theorem Gd.TN.keep (T : d.TN P w A a g j s) (hj : 0 < j) (ha : ∀ o, s.heap.get? a = some o → s'.heap.get? a = some o) (ho : d.Own j s.heap → d.Own j s'.heap) (k : KeepS s s') : d.TN P w A a g j s' := by
  obtain ⟨⟨o, nm, qn, e, r⟩, own, gs, e2, hb, hs, hgo⟩ := T
  exact ⟨⟨o, nm, qn, ha _ e, r⟩, ho own, gs, k g gs (hs hj) e2, hb, hs, hgo⟩
end
end Gn
/-! A list made over an iterator whose state is the whole state's (zip of generators). -/
namespace Gn
open PySem PySem.Spec PyProof.Rows L2 GenW
open Mf (isS KeepS Real)
/-- g.__next__() -/
theorem callS {P : Program} {w : World} {A : Around} {E : Value → Shared → Prop} {s : Shared} {a : Addr} {g n : Nat} {gs : GenState} {R : GenEnd} {Y : Protocol} {Q : Option Value → Shared → Prop} (hh : A.handled = none) (hl : s.heap.NoLimit) (hd : A.depth < recursionLimit)
    (hg : s.heap.IsGen a g) (hgs : s.gens[g]? = some gs) (hgo : gs.Goes (model P w) A.in1 R Y n (.send .none) (s.setGen g .running))
    (hR : ∀ x s₁, R n (s.setGen g .running) x s₁ → (x = .ok (.ret .none) ∨ x = .ok .next) ∧ ∀ h' e, (∀ b o, s₁.heap.get? b = some o → h'.get? b = some o) → (∃ o, h'.get? e = some o ∧ o.cls = .type "StopIteration") → E (.ref e) { s₁.setGen g .finished with heap := h' })
    (hY : ∀ v s₁ gs', gs'.bare = true → isS gs' = true → Y (n - 1) (s.setGen g .running) v s₁ (fun r' s'' => later (model P w) A.in1 R Y n gs' r' s'') → Q (some v) (s₁.setGen g gs')) :
    wpAny (model P w) A (callSpecial? (.ref a) "__next__") Q E s := by
  refine wpAny_callSpecial?_slot (name := Str.ofString "__next__") hg.typeIs slot_gen_next (wpAny_call_entry slot_gen_next hg.typeIs entry_gen_next ?_ (args_gen_next _))
  show wpAny _ A.in1 (Builtin.Generator.genWake (.ref a) (.send .none)) _ _ s
  unfold Builtin.Generator.genWake
  refine wpAny_bind (wpAny_holding (wpAny_genNumber hg (wpAny_bind (wpAny_genState hgs ?_))))
  have awake : gs.status ≠ .running ∧ gs.status ≠ .finished := by
    cases gs with
    | running => exact hgo.elim
    | finished => exact hgo.elim
    | fresh c => exact ⟨fun z => (by cases z), fun z => (by cases z)⟩
    | suspended k l c p fs cl => exact ⟨fun z => (by cases z), fun z => (by cases z)⟩
  cases hst : gs.status with
  | running => exact absurd hst awake.1
  | finished => exact absurd hst awake.2
  | _ =>
    refine wpAny_bind (wpAny_roomToWake hl hd ?_)
    show wpAny _ A.in1 (.resume g (.send .none) [] _) _ _ s
    refine resumeS hgs hgo (fun x s₁ hx => ?_) fun v s₁ gs' hb hs hv => wpAny_pure ⟨v, rfl, hY v s₁ gs' hb hs hv⟩
    obtain ⟨hr, hq⟩ := hR x s₁ hx
    have res : End.result (.ret x) = .returned .none := by rcases hr with hr | hr <;> rw [hr] <;> rfl
    rw [res]
    show wpAny _ A.in1 (newExc (.type "StopIteration") [] >>= _) _ _ _
    refine wpAny_bind ?_
    simp only [newExc, newTuple]
    refine wpAny_bind (wpAny_newObj_type ?_ (by size_fits))
    refine wpAny_bind (m := firstArgMember _ _) (wpAny_of_eq (a := Value.none) (by first | rfl | (simp only [firstArgMember]; rfl)) ?_)
    refine wpAny_newObj_type ?_ (by size_fits)
    simp only [raiseNew]
    refine wpAny_bind (wpAny_bind (wpAny_handled ?_))
    first | rw [show A.in1.handled = none from hh] | rw [hh]
    exact wpAny_throw (hq _ _ (fun b o hb => Heap.get?_push_of_some _ (Heap.get?_push_of_some _ hb)) ⟨_, Heap.get?_push_size _ rfl, rfl⟩)
section
variable {d : Gd} {P : Program} {w : World} {A : Around} {E : Value → Shared → Prop} {s s' : Shared} {a : Addr} {g j : Nat}
/-- wake j by __next__ -/
theorem Gd.call {Q : Option Value → Shared → Prop} (T : d.TN P w A.in1 a g j s) (hh : A.handled = none) (hd : A.depth < recursionLimit) (hl : s.heap.NoLimit) (hj : j < d.F) (W : Wk d.base d.outer d.n s) (ho : s.os = d.os) (N : d.Nd s.heap) (an : a ≠ d.n) (af : a ∉ frs d.outer)
    (hQ : ∀ v s1, Kp d.n d.outer s.heap s1.heap → s1.os = s.os → AllBare s1.gens → (∀ i, i ≠ g → s1.gens[i]? = s.gens[i]?) → d.TN P w A.in1 a g (j + 1) s1 → d.Jt j v s.heap s1.heap → Q (some v) s1)
    (hE : ∀ e s1, Kp d.n d.outer s.heap s1.heap → s1.os = s.os → AllBare s1.gens → (∀ i, i ≠ g → s1.gens[i]? = s.gens[i]?) → (∃ h, d.Ed j s.heap h ∧ ∀ b o, h.get? b = some o → s1.heap.get? b = some o) → (∃ o, s1.heap.get? e = some o ∧ o.cls = .type "StopIteration") → E (.ref e) s1) :
    wpAny (model P w) A (callSpecial? (.ref a) "__next__") Q E s := by
  obtain ⟨hg, own, gs, hgs, hb, hs, hgo⟩ := T
  have gl : g < s.gens.size := (Array.getElem?_eq_some_iff.mp hgs).1
  have rd : d.Rd j (s.setGen g .running) := ⟨⟨W.bs, W.size, W.funs, bare_set W.bare rfl⟩, ho, own, N⟩
  obtain ⟨m, hm⟩ : ∃ m, d.F - j = m + 1 := ⟨d.F - j - 1, by omega⟩
  have ej : d.F - 1 - m = j := by omega
  have others : ∀ {s₁ : Shared} {x : GenState}, s₁.gens = (s.setGen g .running).gens → ∀ i, i ≠ g → (s₁.setGen g x).gens[i]? = s.gens[i]? := fun {s₁ x} e i hi => by
    rw [setGen_ne hi, e, setGen_ne hi]
  have siz : ∀ {s₁ : Shared}, s₁.gens = (s.setGen g .running).gens → g < s₁.gens.size := fun {s₁} e => by
    rw [e, setGen_size]
    exact gl
  refine callS hh hl hd hg hgs (hgo hj _ rd) (fun x s₁ hx => ?_) fun v s₁ gs' hb' hs' hv => ?_
  · obtain ⟨e, st, ed⟩ := hx
    refine ⟨.inl e, fun h' ex hk hex => ?_⟩
    refine hE ex _ (fun b o q ne => ?_) st.os (bare_set st.bare rfl) (others st.gens) ⟨s₁.heap, ?_, hk⟩ hex
    · obtain ⟨k1, k2⟩ := st.kp b o q ne
      exact ⟨fun hb => hk _ _ (k1 hb), fun hb => let ⟨sl, e⟩ := k2 hb; ⟨sl, hk _ _ e⟩⟩
    · have z : d.F - (d.F - j) = j := by omega
      rw [z] at ed
      exact ed
  · rw [hm] at hv
    obtain ⟨st, own', jt, kap⟩ := hv
    have z : m + 1 - 1 = m := rfl
    rw [z, ej] at own' jt kap
    refine hQ v _ st.kp st.os (bare_set st.bare hb') (others st.gens) ⟨?_, own', gs', setGen_eq (siz st.gens), hb', fun _ => hs', fun hj' s2 r2 => ?_⟩ jt
    · obtain ⟨o, nm, qn, e1, e2⟩ := hg
      exact ⟨o, nm, qn, (st.kp a o e1 an).1 af, e2⟩
    · have y := kap hj' s2 r2
      have z2 : d.F - (j + 1) = m := by omega
      rw [z2]
      exact y
theorem Gd.TN.at (T : d.TN P w A a g j s) (ha : ∀ o, s.heap.get? a = some o → s'.heap.get? a = some o) (ho : d.Own j s.heap → d.Own j s'.heap) (k : s'.gens[g]? = s.gens[g]?) : d.TN P w A a g j s' := by
  obtain ⟨⟨o, nm, qn, e, r⟩, own, gs, e2, q⟩ := T
  exact ⟨⟨o, nm, qn, ha _ e, r⟩, ho own, gs, k.trans e2, q⟩
end
/-! ### the list -/
structure TurnZ (X : Cx) (tg : Expr) (J : It) (fp : List Addr) (it : Addr) (tn : Nat → Shared → Prop) : Prop where
  obj : ∀ i s, tn i s → ∀ b ∈ fp, ∃ o, s.heap.get? b = some o ∧ ∀ v, o.data ≠ .cell v
  same : ∀ i s s', tn i s → (∀ b ∈ fp, ∀ o, s.heap.get? b = some o → s'.heap.get? b = some o) → s'.gens = s.gens → tn i s'
  keep : ∀ i s s', 0 < i → tn i s → (∀ b ∈ fp, ∀ o, s.heap.get? b = some o → s'.heap.get? b = some o) → KeepS s s' → tn i s'
  item : ∀ (Y : Cx), Y.prog = X.prog → Y.w = X.w → Y.K = X.K → Y.base = X.base → Y.A = X.A → Y.stack = X.stack → Y.calm = true → Y.s_0.os = X.s_0.os → ∀ (i : Nat) (pins : List (Addr × Obj)) (s : Shared) (σ : L2.St) (H : Hp) (E : Value → Shared → Prop), Inv Y pins σ H s → (∀ b ∈ fp, FpOk Y pins H b) → tn i s → J.go i H →
    wpAny (model X.prog X.w) X.A (pyNext (.ref it)) (fun r s1 => ∃ u, r = some u ∧ wpAny (model X.prog X.w) X.A (letOwnedTupleGo tg (.ref it) u) (fun _ s2 => ∃ x H', Inv Y pins σ H' s2 ∧ RelV x u ∧ J.yld i H x H' ∧ tn (i + 1) s2 ∧ ∀ b ∈ fp, H' b = none) E s1) E s
  done : ∀ (Y : Cx), Y.prog = X.prog → Y.w = X.w → Y.K = X.K → Y.base = X.base → Y.A = X.A → Y.stack = X.stack → Y.calm = true → Y.s_0.os = X.s_0.os → ∀ (i : Nat) (pins : List (Addr × Obj)) (s : Shared) (σ : L2.St) (H : Hp) (E : Value → Shared → Prop), Inv Y pins σ H s → (∀ b ∈ fp, FpOk Y pins H b) → tn i s → J.stop i H →
    wpAny (model X.prog X.w) X.A (pyNext (.ref it)) (fun r s1 => r = none ∧ Inv Y pins σ H s1) E s
  self : ∀ (s : Shared) (Q : Value → Shared → Prop) (E : Value → Shared → Prop), tn 0 s → Q (.ref it) s → wpAny (model X.prog X.w) X.A (pyIter (.ref it)) Q E s
def PIZ (X : Cx) (tg iter : Expr) (wi : TI) : Prop := ∀ (pins : List (Addr × Obj)) (s : Shared) (σ : L2.St) (H : Hp) (R : It → Hp → Prop), Inv X pins σ H s → wi σ H R →
  wpAny (model X.prog X.w) X.A (eval iter X.env) (fun v s1 => wpAny (model X.prog X.w) X.A (pyIter v) (fun itv s2 => ∃ (it : Addr) (fp : List Addr) (tn : Nat → Shared → Prop) (J : It) (H' : Hp), itv = .ref it ∧ Inv X pins σ H' s2 ∧ TurnZ X tg J fp it tn ∧ tn 0 s2 ∧ (∀ b ∈ fp, FpOk X pins H' b) ∧ R J H') X.xe s1) X.xe s
section
variable {X : Cx}
theorem wild {α : Type} {t : Sem α} {Q Q' : α → Shared → Prop} {M : Model} {A : Around} {E : Value → Shared → Prop} {s : Shared} (h : wpAny M A t Q (fun _ _ => False) s) (f : ∀ a s, Q a s → Q' a s) : wpAny M A t Q' E s := wpAny_mono h f fun _ _ z => z.elim
/-- name = [elt for target in iter], the name a local -/
theorem ps_setLcS {i : Nat} {y : Str} {py : Pos} {elt tg iter : Expr} {scope : Scope} {own : List (Str × Nat)} {pos spos : Pos} {wi : TI} {g : TG} {te : TE} (hc : X.calm = true) (hN : X.N.Nodup) (hy : X.N[i]? = some y) (hyl : X.env.scope.names.lookup y = some .local)
    (hsw : swapsWith (.ListComp elt [⟨tg, iter, [], 0⟩] scope pos) (some (.Name y py)) spos.line X.env = pure true) (hi : PIZ X tg iter wi) (ok : BlkOk X.N X.env.scope scope own)
    (hg : ∀ (s : Shared) (H : Hp) (C : Addr) (cl : List (Str × Addr)) (fp : List Addr), PG (X.blk s H scope (compEnvC scope cl C X.env) fp) tg g)
    (he : ∀ (s : Shared) (H : Hp) (C : Addr) (cl : List (Str × Addr)) (fp : List Addr), PE (X.blk s H scope (compEnvC scope cl C X.env) fp) elt te) (hs : ∀ x, foldedSetIterable iter X.env x = pure x := by intro _; rfl) :
    PS X (.Assign [.Name y py] (.ListComp elt [⟨tg, iter, [], 0⟩] scope pos) spos) (tAsg (tLc wi g tYes te (own.map (·.2))) (gName i)) := by
  refine ⟨fun pins s σ H D I h => ?_⟩
  rw [exec_Assign_Name_used _ _ _ _ hsw]
  refine wpAny_bind (wpAny_standAt (wpAny_bind ?_))
  show wpAny _ X.A (do let _ ← comprehension (.ListComp elt [⟨tg, iter, [], 0⟩] scope pos) scope X.env (firstIterPos [⟨tg, iter, [], 0⟩] pos) (newList []) false (eval iter X.env) (some (assign (.Name y py) X.env))) _ _ s
  have h : tLc wi g tYes te (own.map (·.2)) σ H (fun x H1 => gName i x σ H1 D.nx) := h
  have cells : ∀ x ∈ scope.names, x.2 = .free → ∃ c, X.env.cells.lookup x.1 = some c := fun x hx e => I.ok.has _ (ok.free x hx e)
  refine wpAny_bind (thn (Q := fun _ s' => SP X pins D .next s') ?_ fun _ s' hq => wpAny_pure (wpAny_pure hq))
  refine wpAny_comprehension_free (use := some (assign (.Name y py) X.env)) rfl hs (closure_ok cells) ok.kind (fun x hx e => by rw [ok.uniq x hx, e]) (thn (hi pins s σ H _ I h) fun _ s1 h1 => thn h1 fun _ s2 h2 => ?_)
  obtain ⟨it, fp, tn, J, H2, e0, I2, T, t2, f2, q⟩ := h2
  subst e0
  refine wpAny_newObj_type (newEnv_comp ?_) (by show 0 ≤ sizeLine; decide)
  generalize eD : s2.heap.objs.size = L
  have freeL : H2 L = none := I2.hok.fresh (Nat.le_of_eq eD)
  obtain ⟨W, ⟨m0, w0⟩, turn⟩ := q L freeL
  generalize e3 : ({ s2 with heap := s2.heap.push { cls := .type "list", data := .seq ([] : List Value).toArray } } : Shared) = s3
  have h3 : s3.heap = s2.heap.push { cls := .type "list", data := .seq ([] : List Value).toArray } := by rw [← e3]
  have g3 : s3.gens = s2.gens := by rw [← e3]
  have o3 : s3.os = s2.os := by rw [← e3]
  have k3 : ∀ b o, s2.heap.get? b = some o → s3.heap.get? b = some o := fun b o e => by rw [h3]; exact Heap.get?_push_of_some _ e
  have I3 : Inv X pins σ (upd H2 L (.lst [])) s3 := by
    rw [← e3]
    refine I2.laid (t' := s2.toks) (fun b o e => Heap.get?_push_of_some _ e) (Nat.le_of_eq eD) ⟨Nat.zero_le _, [], 0, .nil, ?_⟩
    rw [← eD]
    exact Heap.get?_push_size _ rfl
  have lt : ∀ b ∈ fp, b < s2.heap.objs.size := fun b hb => by
    obtain ⟨o, e, _⟩ := T.obj _ _ t2 b hb
    exact Heap.lt_size e
  have f3 : ∀ b ∈ fp, FpOk X pins (upd H2 L (.lst [])) b ∧ b < s3.heap.objs.size := fun b hb => by
    refine ⟨⟨?_, (f2 b hb).2⟩, by rw [h3, Heap.size_push]; exact Nat.lt_succ_of_lt (lt b hb)⟩
    rw [upd_ne (by rw [← eD]; exact Nat.ne_of_lt (lt b hb))]
    exact (f2 b hb).1
  have t3 : tn 0 s3 := T.same _ _ _ t2 (fun b _ o e => k3 b o e) g3
  have I4 := block_start I3 ok hN f3
  have pg := hg s3 (upd H2 L (.lst [])) s3.heap.objs.size (cellsFrom (s3.heap.objs.size + 1) scope.names (cloFrom X.env.cells scope.names [])) fp
  have pe := he s3 (upd H2 L (.lst [])) s3.heap.objs.size (cellsFrom (s3.heap.objs.size + 1) scope.names (cloFrom X.env.cells scope.names [])) fp
  show codeAny _ _ (.compStart (.ListComp elt [⟨tg, iter, [], 0⟩] scope pos) 0 (.ref it) (.ref L) (compEnvC scope (cellsFrom (s3.heap.objs.size + 1) scope.names (cloFrom X.env.cells scope.names [])) s3.heap.objs.size X.env)) (compPost (model X.prog X.w) X.A X.xe (some (assign (.Name y py) X.env)) (fun _ s' => SP X pins D .next s') (.ref L) s3.heap.objs.size) { s3 with heap := pushCells (s3.heap.push { cls := .type "dict", data := .dict #[] }) scope.names }
  have nfp : ∀ b ∈ fp, (upd H2 L (.lst [])) b = none := fun b hb => (f3 b hb).1.1
  generalize hce : compEnvC scope (cellsFrom (s3.heap.objs.size + 1) scope.names (cloFrom X.env.cells scope.names [])) s3.heap.objs.size X.env = ce at I4 pg pe ⊢
  have cL : ce.locals = s3.heap.objs.size := by subst hce; rfl
  generalize hH3 : upd H2 L (.lst []) = H3 at I3 I4 pg pe w0 nfp f3
  generalize e4 : ({ s3 with heap := pushCells (s3.heap.push { cls := .type "dict", data := .dict #[] }) scope.names } : Shared) = s4 at I4 ⊢
  have t4 : tn 0 s4 := T.same _ _ _ t3 (fun b _ o e => by rw [← e4]; exact pushCells_keeps _ _ _ _ (Heap.get?_push_of_some _ e)) (by rw [← e4])
  have os3 : s3.os = X.s_0.os := I3.os
  have stat : ∀ {σ' : L2.St} {H' : Hp} {s' : Shared} {pl : List (Addr × Obj)}, Inv (X.blk s3 H3 scope ce fp) pl σ' H' s' → (∀ b ∈ fp, H' b = none) → ∀ b ∈ fp, FpOk (X.blk s3 H3 scope ce fp) [] H' b := fun {σ' H' s' pl} Z n b hb =>
    ⟨n b hb, (Z.ok.exf b hb).1, Z.ok.exfs b hb, .inl hb, (Z.ok.exf b hb).2, fun p hp => by cases (show p ∈ ([] : List (Addr × Obj)) from hp)⟩
  have nox : ∀ Γ : PySem.Ctx, Γ.In (X.blk s3 H3 scope ce fp).A → ∀ e s₁, (X.blk s3 H3 scope ce fp).xe e s₁ → False := fun _ _ _ _ z => z
  have back : ∀ s6 m H5, Inv (X.blk s3 H3 scope ce fp) [] (wipe σ (own.map (·.2))) H5 s6 → (gName i (V.ref L) σ H5 D.nx) → s6.heap.Ns ce.locals m → compPost (model X.prog X.w) X.A X.xe (some (assign (.Name y py) X.env)) (fun _ s' => SP X pins D .next s') (.ref L) s3.heap.objs.size (.ok .next) s6 := by
    intro s6 m H5 I6 qq hn
    have I7 : Inv X pins σ H5 s6 := I3.call' (ch := fp) I6.os I6.base I6.hok I6.bare fun b hb => ⟨(f3 b hb).1.2.2.2.1, (f3 b hb).1.2.1, (f3 b hb).1.2.2.2.2.1, (f3 b hb).1.2.2.2.2.2⟩
    have nC : H5 s3.heap.objs.size = none := by
      have z : H5 ce.locals = none := I6.free
      rw [cL] at z
      exact z
    rw [cL] at hn
    obtain ⟨f0, f1, f2', f3', f4, f5⟩ := I3.fpOk (H' := H5) (Nat.le_refl _) nC
    show wpAny _ _ (assign (.Name y py) X.env (.ref L)) _ _ _
    refine wpAny_assign_Name (store_ok2 (v := V.ref L) I7 hN hy (.inl hyl) rfl (fun s8 I8 ⟨a, sb, ha⟩ => ?_) (.inr hyl))
    have haC : s3.heap.objs.size ≠ a := by
      rcases ha with z | z
      · rw [z]
        exact f1
      · exact fun e => f4 y a z e.symm
    exact ⟨m, hn.sameBut sb haC, fun h9 sb9 => ⟨_, H5, I8.turned (t' := s8.toks) (fun b o hb e => (sb9.2 b hb).trans e) f0 f1 f3' f4 f5, qq⟩⟩
  have loop : codeAny (model X.prog X.w) X.A (.compLoop (.ListComp elt [⟨tg, iter, [], 0⟩] scope pos) 0 (.ref it) (.ref L) ce) (compPost (model X.prog X.w) X.A X.xe (some (assign (.Name y py) X.env)) (fun _ s' => SP X pins D .next s') (.ref L) s3.heap.objs.size) s4 := by
    refine compLoop_any (fun n s' => ∃ i H', Inv (X.blk s3 H3 scope ce fp) [] (wipe σ (own.map (·.2))) H' s' ∧ tn i s' ∧ (∀ b ∈ fp, H' b = none) ∧ W i n H') (fun n s5 ⟨i, H5, I5, t5, n5, w5⟩ => ?_) m0 ⟨0, H3, I4, t4, nfp, w0⟩
    rcases turn i n H5 w5 with ⟨stop, qq⟩ | ⟨go, Nx, hNx, step⟩
    · refine wild (T.done (X.blk s3 H3 scope ce fp) rfl rfl rfl rfl rfl rfl hc os3 i [] s5 _ H5 (fun _ _ => False) I5 (stat I5 n5) t5 stop) fun r s6 ⟨hr, I6⟩ => ?_
      subst hr
      obtain ⟨m, hn, _⟩ := I6.loc
      exact back s6 m H5 I6 qq hn
    · refine wild (T.item (X.blk s3 H3 scope ce fp) rfl rfl rfl rfl rfl rfl hc os3 i [] s5 _ H5 (fun _ _ => False) I5 (stat I5 n5) t5 go) fun r s6 ⟨u, hr, h6⟩ => ?_
      subst hr
      refine wild h6 fun _ s7 ⟨x, H7, I7, r7, y7, t7, n7⟩ => ?_
      have I7' := I7.pinned (stat I7 n7) (T.obj _ _ t7)
      refine thn (framed (X := X.blk s3 H3 scope ce fp) nox I7' (fun s₀ I₀ => pg.run _ s₀ _ H7 x u _ I₀ r7 (step x H7 y7)) fun _ s₁ s' a b c ⟨σ', H', Z, q⟩ => ⟨σ', H', inv_real Z a b c, q⟩) fun _ s8 ⟨⟨σ8, H8, I8, hw8, q8⟩, k8⟩ => ?_
      refine wpAny_tests_nil ?_
      rw [if_pos rfl]
      have fin : ∀ {s' : Shared} {H' : Hp}, KeepS s7 s' → Inv (X.blk s3 H3 scope ce fp) ([] ++ pinsAt fp s7.heap) σ8 H' s' → Nx H' → ∃ m, m < n ∧ ∃ i H', Inv (X.blk s3 H3 scope ce fp) [] (wipe σ (own.map (·.2))) H' s' ∧ tn i s' ∧ (∀ b ∈ fp, H' b = none) ∧ W i m H' := fun {s' H'} ks I' nx => by
        obtain ⟨m', hm, w'⟩ := hNx H' nx
        have pin' : ∀ b ∈ fp, ∀ o, s7.heap.get? b = some o → s'.heap.get? b = some o ∧ H' b = none := fun b hb o e =>
          let z := I'.pin (b, o) (List.mem_append_right _ (List.mem_append_right _ (mem_pinsAt hb e)))
          ⟨z.1, z.2.1⟩
        refine ⟨m', hm, i + 1, H', (I'.unpinned (pins := [])).weak (by rw [← hw8, wipe_length]) (fun j v e => ?_), T.keep _ _ _ (Nat.succ_pos i) t7 (fun b hb o e => (pin' b hb o e).1) ks, fun b hb => ?_, w'⟩
        · rw [← hw8] at e
          exact (wipe_some e).1
        · obtain ⟨o, e, _⟩ := T.obj _ _ t7 b hb
          exact (pin' b hb o e).2
      have q8' : te σ8 H8 fun yv H4 => ∃ acc, H4 L = some (.lst acc) ∧ acc.length < sizeLine ∧ Nx (upd H4 L (.lst (acc ++ [yv]))) := q8
      refine thn (framed (X := X.blk s3 H3 scope ce fp) nox I8 (fun s₀ I₀ => pe.run _ s₀ σ8 H8 _ I₀ q8') fun _ s₁ s' a b c ⟨v, H', Z, q⟩ => ⟨v, H', inv_real Z a b c, q⟩) fun z s10 ⟨⟨yv, H10, I10, r10, acc, hD10, hz10, nx⟩, k10⟩ => ?_
      refine thn (framed (X := X.blk s3 H3 scope ce fp) nox I10 (P := fun _ s' => Inv (X.blk s3 H3 scope ce fp) ([] ++ pinsAt fp s7.heap) σ8 (upd H10 L (.lst (acc ++ [yv]))) s') (fun s₀ I₀ => app_ok (X := X.blk s3 H3 scope ce fp) I₀ hD10 hz10 r10 fun s11 I11 => I11) fun _ s₁ s' a b c Z => inv_real Z a b c) fun _ s11 ⟨I11, k11⟩ => ?_
      exact fin (k8.trans (k10.trans k11)) I11 nx
  exact codeAny_compStart_list loop (T.self _ _ _ t4 loop)
end
end Gn
/-! zip of a range and two generators. -/
namespace Gn
open PySem PySem.Spec PyProof.Rows L2 GenW
theorem begins_range (r : Addr) {a b c : Int} {t u v : Tok} (hs : Builtin.Range.small a b c = true) : Begins (.ref r) { cls := .type "range_iterator", data := .fields #[rawInt a, rawInt (Builtin.Range.rangeSize a b c), rawInt c] } fun h => IsRange h r a b c t u v where
  iter := fun prog w A E s Q hr h => wpAny_pyIter_range hr hs h
  keeps := fun h h' x hk => hk r _ x
  free := rfl
abbrev gT (h : Heap) (o1 : Obj) (a b : Addr) : Heap := (h.push o1).push { cls := .type "tuple", data := .seq #[.ref h.objs.size, .ref a, .ref b] }
abbrev gO (h : Heap) (o1 : Obj) (a b : Addr) : Heap := (gT h o1 a b).push { cls := .type "tuple", data := .seq #[.none, .none, .none] }
abbrev gZ (h : Heap) (o1 : Obj) (a b : Addr) : Heap := (gO h o1 a b).push { cls := .type "zip", data := .fields #[.none, .bool false, .bool false, .ref (h.push o1).objs.size, .ref (gT h o1 a b).objs.size] }
theorem meets_zip_newG {v1 : Value} {o1 : Obj} {H1 : Heap → Prop} (B1 : Begins v1 o1 H1) (a b : Addr) (i j : Nat) :
    Meets (Builtin.«zip.__new__» ⟨[.type "zip", v1, .ref a, .ref b], []⟩) (fun _ R s => (H1 s.heap ∧ s.heap.IsGen a i ∧ s.heap.IsGen b j) ∧
      R (.ok (.ret (.ref (gO s.heap o1 a b).objs.size))) { s with heap := gZ s.heap o1 a b }) :=
  .of_wp fun prog w A R s h => by
    obtain ⟨hp, g, d, tk, os⟩ := s; obtain ⟨⟨h1, h2, h3⟩, h⟩ := h
    have hsub := sub_zip
    have q1 : ∀ {A' : Around} {E : Value → Shared → Prop} {Q : Value → Shared → Prop}, Q (.ref hp.objs.size) ⟨(hp.push o1), g, d, tk, os⟩ → wpAny (model prog w) A' (pyIter v1) Q E ⟨hp, g, d, tk, os⟩ :=
      fun q => B1.iter prog w _ _ ⟨hp, g, d, tk, os⟩ _ (B1.keeps _ _ h1 fun b o' e => e) q
    have gk : ∀ {c k}, hp.IsGen c k → (hp.push o1).IsGen c k := fun ⟨o, nm, qn, e, r⟩ => ⟨o, nm, qn, Heap.get?_push_of_some _ e, r⟩
    have q2 : ∀ {A' : Around} {E : Value → Shared → Prop} {Q : Value → Shared → Prop}, Q (.ref a) ⟨(hp.push o1), g, d, tk, os⟩ → wpAny (model prog w) A' (pyIter (.ref a)) Q E ⟨(hp.push o1), g, d, tk, os⟩ :=
      fun q => wpAny_pyIter_gen (gk h2) q
    have q3 : ∀ {A' : Around} {E : Value → Shared → Prop} {Q : Value → Shared → Prop}, Q (.ref b) ⟨(hp.push o1), g, d, tk, os⟩ → wpAny (model prog w) A' (pyIter (.ref b)) Q E ⟨(hp.push o1), g, d, tk, os⟩ :=
      fun q => wpAny_pyIter_gen (gk h3) q
    wp_walk using q1, q2, q3
    exact ⟨_, rfl, h⟩
section
variable {prog : Program} {w : World} {A : Around} {E : Value → Shared → Prop} {s : Shared}
theorem zip_new {v1 : Value} {o1 : Obj} {H1 : Heap → Prop} {a b : Addr} {i j : Nat} {Q : Value → Shared → Prop} (B1 : Begins v1 o1 H1) (h1 : H1 s.heap) (h2 : s.heap.IsGen a i) (h3 : s.heap.IsGen b j)
    (h : ∀ h', IsZip h' (s.heap.objs.size + 3) (s.heap.objs.size + 1) (s.heap.objs.size + 2) .none → IsTupOf3 h' (s.heap.objs.size + 1) (.ref s.heap.objs.size) (.ref a) (.ref b) →
      IsTupOf3 h' (s.heap.objs.size + 2) .none .none .none → h'.get? s.heap.objs.size = some o1 → (∀ c o, s.heap.get? c = some o → h'.get? c = some o) → Q (.ref (s.heap.objs.size + 3)) { s with heap := h' }) :
    wpAny (model prog w) A (call (.type "zip") [v1, .ref a, .ref b]) Q E s := by
  refine callType_new F.called_zip (by decide) (F.typeCall_zip_3 _ _ _) (F.newCall_zip_3 _ _ _) (fun obj => F.args_object_init_4 obj _ _ _) F.entry_zip_new
    (meets_zip_newG B1 a b i j) ⟨⟨h1, h2, h3⟩, ?_⟩
  have z1 : (s.heap.push o1).objs.size = s.heap.objs.size + 1 := by rw [Heap.size_push]
  have zT : (gT s.heap o1 a b).objs.size = s.heap.objs.size + 2 := by rw [Heap.size_push, z1]
  have zO : (gO s.heap o1 a b).objs.size = s.heap.objs.size + 3 := by rw [Heap.size_push, zT]
  have gZ' : (gZ s.heap o1 a b).get? (gO s.heap o1 a b).objs.size = some { cls := .type "zip", data := .fields #[.none, .bool false, .bool false, .ref (s.heap.push o1).objs.size, .ref (gT s.heap o1 a b).objs.size] } := Heap.get?_push_size _ rfl
  have gO' : (gZ s.heap o1 a b).get? (gT s.heap o1 a b).objs.size = some { cls := .type "tuple", data := .seq #[.none, .none, .none] } := Heap.get?_push_of_some _ (Heap.get?_push_size _ rfl)
  have gT' : (gZ s.heap o1 a b).get? (s.heap.push o1).objs.size = some { cls := .type "tuple", data := .seq #[.ref s.heap.objs.size, .ref a, .ref b] } := Heap.get?_push_of_some _ (Heap.get?_push_of_some _ (Heap.get?_push_size _ rfl))
  have g1 : (gZ s.heap o1 a b).get? s.heap.objs.size = some o1 := Heap.get?_push_of_some _ (Heap.get?_push_of_some _ (Heap.get?_push_of_some _ (Heap.get?_push_size _ B1.free)))
  rw [zO, zT, z1] at gZ'
  rw [zT] at gO'
  rw [z1] at gT'
  show _ ∧ _
  rw [zO]
  exact ⟨⟨_, gZ', rfl⟩, h _ gZ' gT' gO' g1 fun c o e => Heap.get?_push_of_some _ (Heap.get?_push_of_some _ (Heap.get?_push_of_some _ (Heap.get?_push_of_some _ e)))⟩
theorem nextOf_range_item {it : Addr} {x left step : Int} {Q : Value → Shared → Prop} (hit : IsRangeIter s.heap it x left step) (hleft : 0 < left)
    (hQ : ∀ h', IsRangeIter h' it (x + step) (left - 1) step → Heap.SameBut it s.heap h' → Q (.int x s.toks) { s with heap := h', toks := s.toks + 1 }) :
    wpAny (model prog w) A (Builtin.SmallTypes.nextOf (.ref it)) Q E s := by
  have hT : s.TypeIs (.ref it) "range_iterator" := ⟨_, hit, rfl⟩
  unfold Builtin.SmallTypes.nextOf
  refine wpAny_bind (wpAny_callSpecial?_slot (name := Str.ofString "__next__") hT F.slot_range_iterator_next
    (call_meets F.slot_range_iterator_next hT F.entry_range_iterator_next (F.args_range_iterator_next_1 _) (AutoRange.range_iterator___next___range_iterator_1 it x left step (by omega)) ⟨hit, ?_⟩))
  exact wpAny_pure (hQ _ (Heap.get?_update_self _ (Heap.get?_update_self _ hit rfl) rfl) ((Heap.SameBut.update ..).trans (Heap.SameBut.update ..)))
theorem nextOf_range_end {it : Addr} {x left step : Int} {Q : Value → Shared → Prop} (hh : A.handled = none) (hit : IsRangeIter s.heap it x left step) (hleft : left ≤ 0)
    (hE : ∀ h' e, Heap.ExtBut it s.heap h' → (∃ o, h'.get? e = some o ∧ o.cls = .type "StopIteration") → E (.ref e) { s with heap := h' }) : wpAny (model prog w) A (Builtin.SmallTypes.nextOf (.ref it)) Q E s := by
  have hT : s.TypeIs (.ref it) "range_iterator" := ⟨_, hit, rfl⟩
  unfold Builtin.SmallTypes.nextOf
  refine wpAny_bind (wpAny_callSpecial?_slot (name := Str.ofString "__next__") hT F.slot_range_iterator_next
    (wpAny_call_entry F.slot_range_iterator_next hT F.entry_range_iterator_next ?_ (F.args_range_iterator_next_1 _)))
  show wpAny _ _ (field (.ref it) 0 >>= _) _ _ s
  refine wpAny_bind (wpAny_field hit rfl (x := rawInt x) rfl ?_)
  show wpAny _ _ (field (.ref it) 1 >>= _) _ _ s
  refine wpAny_bind (wpAny_field hit rfl (x := rawInt left) rfl ?_)
  show wpAny _ _ (field (.ref it) 2 >>= _) _ _ s
  refine wpAny_bind (wpAny_field hit rfl (x := rawInt step) rfl ?_)
  show wpAny _ _ (if left ≤ 0 then _ else _) _ _ s
  rw [if_pos hleft]
  refine wpAny_bind (wpAny_rule ?_)
  refine wpAny_bind ?_
  show wpAny _ _ (newExc (.type "StopIteration") [] >>= _) _ _ _
  refine wpAny_bind ?_
  simp only [newExc, newTuple]
  refine wpAny_bind (wpAny_newObj_type ?_ (by size_fits))
  refine wpAny_bind (m := firstArgMember _ _) (wpAny_of_eq (a := Value.none) (by first | rfl | (simp only [firstArgMember]; rfl)) ?_)
  refine wpAny_newObj_type ?_ (by size_fits)
  simp only [raiseNew]
  refine wpAny_bind (wpAny_handled ?_)
  first | rw [show A.in1.handled = none from hh] | rw [hh]
  refine wpAny_bind (wpAny_pure (wpAny_throw ?_))
  exact hE _ _ (((Heap.ExtBut.refl it s.heap).push _).push _) ⟨_, Heap.get?_push_size _ rfl, rfl⟩
/-- one pair of a zip of three -/
theorem zip3_go {z TI TO i1 i2 i3 : Addr} {Q : Option Value → Shared → Prop} (hz : IsZip s.heap z TI TO .none) (hTI : IsTupOf3 s.heap TI (.ref i1) (.ref i2) (.ref i3))
    (h : ∀ h0, IsZip h0 z TI TO .ellipsis → Heap.SameBut z s.heap h0 →
      wpAny (model prog w) A.in1 (Builtin.SmallTypes.nextOf (.ref i1)) (fun x1 s1 => ∃ b1 b2 b3, IsTupOf3 s1.heap TO b1 b2 b3 ∧ ∀ g1, IsTupOf3 g1 TO x1 b2 b3 → Heap.SameBut TO s1.heap g1 →
        wpAny (model prog w) A.in1 (Builtin.SmallTypes.nextOf (.ref i2)) (fun x2 s2 => IsTupOf3 s2.heap TO x1 b2 b3 ∧ ∀ g2, IsTupOf3 g2 TO x1 x2 b3 → Heap.SameBut TO s2.heap g2 →
          wpAny (model prog w) A.in1 (Builtin.SmallTypes.nextOf (.ref i3)) (fun x3 s3 => IsTupOf3 s3.heap TO x1 x2 b3 ∧ ∀ g3, IsTupOf3 g3 TO x1 x2 x3 → Heap.SameBut TO s3.heap g3 → IsZip g3 z TI TO .ellipsis ∧
            ∀ h', IsZip h' z TI TO (rawInt g3.objs.size) → IsTupOf3 h' g3.objs.size x1 x2 x3 → (∀ c o, c ≠ z → g3.get? c = some o → h'.get? c = some o) → Q (some (.ref g3.objs.size)) { s3 with heap := h' })
          (fun _ _ => False) { s2 with heap := g2 }) (fun _ _ => False) { s1 with heap := g1 }) (fun _ _ => False) { s with heap := h0 }) :
    wpAny (model prog w) A (pyNext (.ref z)) Q E s := by
  have hT : s.TypeIs (.ref z) "zip" := ⟨_, hz, rfl⟩
  unfold pyNext
  refine wpAny_bind (wpAny_attempt (wpAny_callSpecial?_slot (name := Str.ofString "__next__") hT F.slot_zip_next
    (wpAny_call_entry F.slot_zip_next hT F.entry_zip_next ?_ (F.args_zip_next_1 _))))
  obtain ⟨hp, g, d, tk0, os⟩ := s
  show wpAny _ _ (field (.ref z) 2 >>= _) _ _ _
  refine wpAny_bind (wpAny_field hz rfl (x := .bool false) rfl ?_)
  show wpAny _ _ (field (.ref z) 3 >>= _) _ _ _
  refine wpAny_bind (wpAny_field hz rfl (x := .ref TI) rfl ?_)
  refine wpAny_bind (wpAny_seqItems hTI rfl ?_)
  show wpAny _ _ (Builtin.SmallTypes.ownedTupleIsFree (.ref z) >>= _) _ _ _
  refine wpAny_bind ?_
  unfold Builtin.SmallTypes.ownedTupleIsFree
  refine wpAny_bind (wpAny_field hz rfl (x := .none) rfl (wpAny_pure ?_))
  simp only [if_true]
  refine wpAny_bind (wpAny_rule ?_)
  refine wpAny_bind (wpAny_field hz rfl (x := .ref TO) rfl ?_)
  refine wpAny_bind (wpAny_setField_rec hz (by simp) fun g0 hz0 hs0 => ?_)
  replace hz0 : IsZip g0 z TI TO .ellipsis := hz0
  replace hs0 : Heap.SameBut z hp g0 := hs0
  refine wpAny_bind ?_
  simp only [List.zipIdx_cons, List.zipIdx_nil, List.forIn_cons, List.forIn_nil]
  refine wpAny_bind (wpAny_bind (wpAny_onRaise ?_))
  show wpAny _ _ (Builtin.SmallTypes.nextOf (.ref i1) >>= _) _ _ _
  refine wpAny_bind (wild (h g0 hz0 hs0) fun x1 s1 ⟨b1, b2, b3, hU1, h1⟩ => wpAny_pure ?_)
  refine wpAny_bind (wpAny_seqItems hU1 rfl ?_)
  refine wpAny_bind (updateSeq_IsTupOf3 hU1 fun g1 hT1 hs1 => ?_)
  replace hT1 : IsTupOf3 g1 TO x1 b2 b3 := hT1
  refine wpAny_bind (wpAny_letGo (wpAny_pure ?_))
  refine wpAny_bind (wpAny_bind (wpAny_onRaise ?_))
  show wpAny _ _ (Builtin.SmallTypes.nextOf (.ref i2) >>= _) _ _ _
  refine wpAny_bind (wild (h1 g1 hT1 hs1) fun x2 s2 ⟨hU2, h2⟩ => wpAny_pure ?_)
  refine wpAny_bind (wpAny_seqItems hU2 rfl ?_)
  refine wpAny_bind (updateSeq_IsTupOf3 hU2 fun g2 hT2 hs2 => ?_)
  replace hT2 : IsTupOf3 g2 TO x1 x2 b3 := hT2
  refine wpAny_bind (wpAny_letGo (wpAny_pure ?_))
  refine wpAny_bind (wpAny_bind (wpAny_onRaise ?_))
  show wpAny _ _ (Builtin.SmallTypes.nextOf (.ref i3) >>= _) _ _ _
  refine wpAny_bind (wild (h2 g2 hT2 hs2) fun x3 s3 ⟨hU3, h3⟩ => wpAny_pure ?_)
  refine wpAny_bind (wpAny_seqItems hU3 rfl ?_)
  refine wpAny_bind (updateSeq_IsTupOf3 hU3 fun g3 hT3 hs3 => ?_)
  replace hT3 : IsTupOf3 g3 TO x1 x2 x3 := hT3
  obtain ⟨hzz, q⟩ := h3 g3 hT3 hs3
  refine wpAny_bind (wpAny_letGo (wpAny_pure (wpAny_pure ?_)))
  refine wpAny_bind (wpAny_seqItems (s := { s3 with heap := g3 }) hT3 rfl ?_)
  refine wpAny_bind (wpAny_newTuple ?_)
  have hzlt : z < g3.objs.size := Heap.lt_size hzz
  show wpAny _ _ (Builtin.SmallTypes.ownedTupleHandOut (.ref z) (.ref g3.objs.size) >>= _) _ _ { s3 with heap := g3.push { cls := .type "tuple", data := .seq #[x1, x2, x3] } }
  refine wpAny_bind ?_
  unfold Builtin.SmallTypes.ownedTupleHandOut
  have hz₆ : IsZip (g3.push { cls := .type "tuple", data := .seq #[x1, x2, x3] }) z TI TO .ellipsis := Heap.get?_push_of_some _ hzz
  refine wpAny_bind (wpAny_setField_rec hz₆ (by simp) fun h₇ hz₇ hs₇ => ?_)
  replace hz₇ : IsZip h₇ z TI TO (rawInt g3.objs.size) := hz₇
  refine wpAny_setField_rec hz₇ (by simp) fun h₈ hz₈ hs₈ => ?_
  replace hz₈ : IsZip h₈ z TI TO (rawInt g3.objs.size) := hz₈
  replace hs₇ : Heap.SameBut z (g3.push { cls := .type "tuple", data := .seq #[x1, x2, x3] }) h₇ := hs₇
  replace hs₈ : Heap.SameBut z h₇ h₈ := hs₈
  have up : ∀ c o, c ≠ z → g3.get? c = some o → h₈.get? c = some o := fun c o c1 e => hs₈.extBut _ _ c1 (hs₇.extBut _ _ c1 (Heap.get?_push_of_some _ e))
  have hT₈ : IsTupOf3 h₈ g3.objs.size x1 x2 x3 := hs₈.extBut _ _ (Nat.ne_of_gt hzlt) (hs₇.extBut _ _ (Nat.ne_of_gt hzlt) (Heap.get?_push_size _ rfl))
  refine wpAny_pure ⟨_, rfl, wpAny_pure ?_⟩
  exact q h₈ hz₈ hT₈ up
/-- its end, at the first -/
theorem zip3_stop {z TI TO i1 i2 i3 : Addr} {Q : Option Value → Shared → Prop} (hz : IsZip s.heap z TI TO .none) (hTI : IsTupOf3 s.heap TI (.ref i1) (.ref i2) (.ref i3))
    (h : ∀ h0, IsZip h0 z TI TO .ellipsis → Heap.SameBut z s.heap h0 →
      wpAny (model prog w) A.in1 (Builtin.SmallTypes.nextOf (.ref i1)) (fun _ _ => False) (fun e s1 => ∃ ea, e = .ref ea ∧ (∃ o, s1.heap.get? ea = some o ∧ o.cls = .type "StopIteration") ∧ IsZip s1.heap z TI TO .ellipsis ∧ ∀ h', Heap.SameBut z s1.heap h' → Q none { s1 with heap := h' }) { s with heap := h0 }) :
    wpAny (model prog w) A (pyNext (.ref z)) Q E s := by
  have hT : s.TypeIs (.ref z) "zip" := ⟨_, hz, rfl⟩
  unfold pyNext
  refine wpAny_bind (wpAny_attempt (wpAny_callSpecial?_slot (name := Str.ofString "__next__") hT F.slot_zip_next
    (wpAny_call_entry F.slot_zip_next hT F.entry_zip_next ?_ (F.args_zip_next_1 _))))
  obtain ⟨hp, g, d, tk0, os⟩ := s
  show wpAny _ _ (field (.ref z) 2 >>= _) _ _ _
  refine wpAny_bind (wpAny_field hz rfl (x := .bool false) rfl ?_)
  show wpAny _ _ (field (.ref z) 3 >>= _) _ _ _
  refine wpAny_bind (wpAny_field hz rfl (x := .ref TI) rfl ?_)
  refine wpAny_bind (wpAny_seqItems hTI rfl ?_)
  show wpAny _ _ (Builtin.SmallTypes.ownedTupleIsFree (.ref z) >>= _) _ _ _
  refine wpAny_bind ?_
  unfold Builtin.SmallTypes.ownedTupleIsFree
  refine wpAny_bind (wpAny_field hz rfl (x := .none) rfl (wpAny_pure ?_))
  simp only [if_true]
  refine wpAny_bind (wpAny_rule ?_)
  refine wpAny_bind (wpAny_field hz rfl (x := .ref TO) rfl ?_)
  refine wpAny_bind (wpAny_setField_rec hz (by simp) fun g0 hz0 hs0 => ?_)
  replace hz0 : IsZip g0 z TI TO .ellipsis := hz0
  replace hs0 : Heap.SameBut z hp g0 := hs0
  refine wpAny_bind ?_
  simp only [List.zipIdx_cons, List.zipIdx_nil, List.forIn_cons, List.forIn_nil]
  refine wpAny_bind (wpAny_bind (wpAny_onRaise ?_))
  show wpAny _ _ (Builtin.SmallTypes.nextOf (.ref i1) >>= _) _ _ _
  refine wpAny_bind (wpAny_mono (h g0 hz0 hs0) (fun _ _ q => q.elim) fun e s1 ⟨ea, ee, ⟨oe, hoe, hce⟩, hzq, q⟩ => ?_)
  subst ee
  have hez : ea ≠ z := fun x => by
    subst x
    rw [hzq] at hoe
    cases hoe
    simp at hce
  refine wpAny_setField_rec hzq (by simp) fun q' _ hq' => ?_
  refine wpAny_bind (wpAny_isInstance (T := "StopIteration") (b := true) ⟨oe, hq'.extBut _ _ hez hoe, hce⟩ isSubtype_stop ?_)
  exact wpAny_pure (q q' hq')
end
section
variable {d : Gd} {P : Program} {w : World} {A : Around} {s : Shared} {a : Addr} {g j : Nat}
/-- wake j within zip -/
theorem Gd.nextOf {E : Value → Shared → Prop} {Q : Value → Shared → Prop} (T : d.TN P w A.in1 a g j s) (hh : A.handled = none) (hd : A.depth < recursionLimit) (hl : s.heap.NoLimit) (hj : j < d.F) (W : Wk d.base d.outer d.n s) (ho : s.os = d.os) (N : d.Nd s.heap) (an : a ≠ d.n) (af : a ∉ frs d.outer)
    (hQ : ∀ v s1, Kp d.n d.outer s.heap s1.heap → s1.os = s.os → AllBare s1.gens → (∀ i, i ≠ g → s1.gens[i]? = s.gens[i]?) → d.TN P w A.in1 a g (j + 1) s1 → d.Jt j v s.heap s1.heap → Q v s1)
    (hE : ∀ e s1, Kp d.n d.outer s.heap s1.heap → s1.os = s.os → AllBare s1.gens → (∀ i, i ≠ g → s1.gens[i]? = s.gens[i]?) → (∃ h, d.Ed j s.heap h ∧ ∀ b o, h.get? b = some o → s1.heap.get? b = some o) → (∃ o, s1.heap.get? e = some o ∧ o.cls = .type "StopIteration") → E (.ref e) s1) :
    wpAny (model P w) A (Builtin.SmallTypes.nextOf (.ref a)) Q E s := by
  unfold Builtin.SmallTypes.nextOf
  exact wpAny_bind (Gd.call T hh hd hl hj W ho N an af (fun v s1 a1 a2 a3 a4 a5 a6 => wpAny_pure (hQ v s1 a1 a2 a3 a4 a5 a6)) hE)
end
end Gn
namespace Mc
open PySem PySem.Spec PyProof.Rows L2

def topS (i : Nat) : Stmt := PySem.Challenge.pw_monthclamp_k19_renewals_one_by_one.main.body.getD i (.Pass ⟨0, 0, 0, 0⟩)
abbrev s_is_leap : Stmt := topS 7
abbrev N_is_leap : List Str := ["year"]
theorem sc_is_leap : FnScope N_is_leap ["year"] (defScope s_is_leap) := ⟨rfl, rfl, rfl, by decide +kernel, rfl, by decide +kernel, by decide +kernel⟩
abbrev s_is_month : Stmt := topS 8
abbrev N_is_month : List Str := ["month"]
theorem sc_is_month : FnScope N_is_month ["month"] (defScope s_is_month) := ⟨rfl, rfl, rfl, by decide +kernel, rfl, by decide +kernel, by decide +kernel⟩
abbrev s_length_of_month : Stmt := topS 9
abbrev N_length_of_month : List Str := ["year", "month"]
theorem sc_length_of_month : FnScope N_length_of_month ["year", "month"] (defScope s_length_of_month) := ⟨rfl, rfl, rfl, by decide +kernel, rfl, by decide +kernel, by decide +kernel⟩
abbrev s_is_date : Stmt := topS 11
abbrev N_is_date : List Str := ["date", "year", "month", "day"]
theorem sc_is_date : FnScope N_is_date ["date"] (defScope s_is_date) := ⟨rfl, rfl, rfl, by decide +kernel, rfl, by decide +kernel, by decide +kernel⟩
abbrev s_check_date : Stmt := topS 12
abbrev N_check_date : List Str := ["date"]
theorem sc_check_date : FnScope N_check_date ["date"] (defScope s_check_date) := ⟨rfl, rfl, rfl, by decide +kernel, rfl, by decide +kernel, by decide +kernel⟩
abbrev s_month_number : Stmt := topS 13
abbrev N_month_number : List Str := ["date"]
theorem sc_month_number : FnScope N_month_number ["date"] (defScope s_month_number) := ⟨rfl, rfl, rfl, by decide +kernel, rfl, by decide +kernel, by decide +kernel⟩
abbrev s_length_of : Stmt := topS 14
abbrev N_length_of : List Str := ["number"]
theorem sc_length_of : FnScope N_length_of ["number"] (defScope s_length_of) := ⟨rfl, rfl, rfl, by decide +kernel, rfl, by decide +kernel, by decide +kernel⟩
abbrev s_date_in : Stmt := topS 18
abbrev N_date_in : List Str := ["number", "day"]
theorem sc_date_in : FnScope N_date_in ["number", "day"] (defScope s_date_in) := ⟨rfl, rfl, rfl, by decide +kernel, rfl, by decide +kernel, by decide +kernel⟩
abbrev s_check_times : Stmt := topS 19
abbrev N_check_times : List Str := ["times"]
theorem sc_check_times : FnScope N_check_times ["times"] (defScope s_check_times) := ⟨rfl, rfl, rfl, by decide +kernel, rfl, by decide +kernel, by decide +kernel⟩
abbrev s_renew : Stmt := topS 20
abbrev N_renew : List Str := ["date", "step", "times", "number", "lengths", "turn"]
theorem sc_renew : FnScope N_renew ["date", "step", "times"] (defScope s_renew) := ⟨rfl, rfl, rfl, by decide +kernel, rfl, by decide +kernel, by decide +kernel⟩
abbrev s_anchored : Stmt := topS 21
abbrev N_anchored : List Str := ["date", "step", "times", "number"]
theorem sc_anchored : FnScope N_anchored ["date", "step", "times"] (defScope s_anchored) := ⟨rfl, rfl, rfl, by decide +kernel, rfl, by decide +kernel, by decide +kernel⟩
abbrev s_renewal_dates : Stmt := topS 22
abbrev N_renewal_dates : List Str := ["date", "step", "number", "day"]
theorem sc_renewal_dates : GScope N_renewal_dates ["date", "step"] (defScope s_renewal_dates) := ⟨rfl, rfl, rfl, by decide +kernel, rfl, by decide +kernel, by decide +kernel⟩
abbrev s_law_pool : Stmt := topS 24
abbrev N_law_pool : List Str := ["script", "at", "cell"]
theorem sc_law_pool : FnScope N_law_pool ["script", "at"] (defScope s_law_pool) := ⟨rfl, rfl, rfl, by decide +kernel, rfl, by decide +kernel, by decide +kernel⟩
abbrev s_law_draw : Stmt := topS 25
abbrev N_law_draw : List Str := ["pool", "many", "drawn", "mixed"]
theorem sc_law_draw : FnScope N_law_draw ["pool", "many"] (defScope s_law_draw) := ⟨rfl, rfl, rfl, by decide +kernel, rfl, by decide +kernel, by decide +kernel⟩
abbrev s_law_days : Stmt := topS 26
abbrev N_law_days : List Str := ["number", "year", "month"]
theorem sc_law_days : FnScope N_law_days ["number"] (defScope s_law_days) := ⟨rfl, rfl, rfl, by decide +kernel, rfl, by decide +kernel, by decide +kernel⟩
abbrev s_law_great : Stmt := topS 27
abbrev N_law_great : List Str := ["pool", "found"]
theorem sc_law_great : FnScope N_law_great ["pool"] (defScope s_law_great) := ⟨rfl, rfl, rfl, by decide +kernel, rfl, by decide +kernel, by decide +kernel⟩
abbrev s_law_date : Stmt := topS 28
abbrev N_law_date : List Str := ["pool", "year", "month", "longest", "day"]
theorem sc_law_date : FnScope N_law_date ["pool"] (defScope s_law_date) := ⟨rfl, rfl, rfl, by decide +kernel, rfl, by decide +kernel, by decide +kernel⟩
abbrev s_law_stride : Stmt := topS 29
abbrev N_law_stride : List Str := ["pool", "most", "found"]
theorem sc_law_stride : FnScope N_law_stride ["pool", "most"] (defScope s_law_stride) := ⟨rfl, rfl, rfl, by decide +kernel, rfl, by decide +kernel, by decide +kernel⟩
abbrev s_law_along : Stmt := topS 30
abbrev N_law_along : List Str := ["begun", "strides", "found", "number", "day", "stride"]
theorem sc_law_along : FnScope N_law_along ["begun", "strides"] (defScope s_law_along) := ⟨rfl, rfl, rfl, by decide +kernel, rfl, by decide +kernel, by decide +kernel⟩
abbrev s_law_first : Stmt := topS 31
abbrev N_law_first : List Str := ["begun", "stride", "many", "found", "one"]
theorem sc_law_first : FnScope N_law_first ["begun", "stride", "many"] (defScope s_law_first) := ⟨rfl, rfl, rfl, by decide +kernel, rfl, by decide +kernel, by decide +kernel⟩
abbrev s_law_right : Stmt := topS 32
abbrev N_law_right : List Str := ["pool", "begun", "stride", "due", "often", "told", "named", "at_once", "few", "both", "at", "one", "two"]
theorem sc_law_right : FnScope N_law_right ["pool"] (defScope s_law_right) := ⟨rfl, rfl, rfl, by decide +kernel, rfl, by decide +kernel, by decide +kernel⟩
abbrev s_law : Stmt := topS 33
abbrev N_law : List Str := ["script", "at", "pool", "turn", "begun", "stride"]
theorem sc_law : FnScope N_law ["script"] (defScope s_law) := ⟨rfl, rfl, rfl, by decide +kernel, rfl, by decide +kernel, by decide +kernel⟩
abbrev s_InvalidDate___init__ : Stmt := clsS (topS 2) 0
abbrev N_InvalidDate___init__ : List Str := ["self", "value"]
theorem sc_InvalidDate___init__ : FnScope N_InvalidDate___init__ ["self", "value"] (defScope s_InvalidDate___init__) := ⟨rfl, rfl, rfl, by decide +kernel, rfl, by decide +kernel, by decide +kernel⟩
abbrev s_InvalidNumber___init__ : Stmt := clsS (topS 3) 0
abbrev N_InvalidNumber___init__ : List Str := ["self", "value"]
theorem sc_InvalidNumber___init__ : FnScope N_InvalidNumber___init__ ["self", "value"] (defScope s_InvalidNumber___init__) := ⟨rfl, rfl, rfl, by decide +kernel, rfl, by decide +kernel, by decide +kernel⟩
/-- what the top has left, by names -/
structure Txt (K : PySem.W.Frag) (mg : Str → Option Value) where
  g_is_leap : mg "is_leap" = some (.ref (He.ga K "is_leap"))
  fd_is_leap : FuncData
  F_is_leap : FunD K "is_leap" "is_leap" (defArgs s_is_leap) (defBody s_is_leap) (defScope s_is_leap) [] [] (He.ga K "is_leap") fd_is_leap
  g_is_month : mg "is_month" = some (.ref (He.ga K "is_month"))
  fd_is_month : FuncData
  F_is_month : FunD K "is_month" "is_month" (defArgs s_is_month) (defBody s_is_month) (defScope s_is_month) [] [] (He.ga K "is_month") fd_is_month
  g_length_of_month : mg "length_of_month" = some (.ref (He.ga K "length_of_month"))
  fd_length_of_month : FuncData
  F_length_of_month : FunD K "length_of_month" "length_of_month" (defArgs s_length_of_month) (defBody s_length_of_month) (defScope s_length_of_month) [] [] (He.ga K "length_of_month") fd_length_of_month
  g_is_date : mg "is_date" = some (.ref (He.ga K "is_date"))
  fd_is_date : FuncData
  F_is_date : FunD K "is_date" "is_date" (defArgs s_is_date) (defBody s_is_date) (defScope s_is_date) [] [] (He.ga K "is_date") fd_is_date
  g_check_date : mg "check_date" = some (.ref (He.ga K "check_date"))
  fd_check_date : FuncData
  F_check_date : FunD K "check_date" "check_date" (defArgs s_check_date) (defBody s_check_date) (defScope s_check_date) [] [] (He.ga K "check_date") fd_check_date
  g_month_number : mg "month_number" = some (.ref (He.ga K "month_number"))
  fd_month_number : FuncData
  F_month_number : FunD K "month_number" "month_number" (defArgs s_month_number) (defBody s_month_number) (defScope s_month_number) [] [] (He.ga K "month_number") fd_month_number
  g_length_of : mg "length_of" = some (.ref (He.ga K "length_of"))
  fd_length_of : FuncData
  F_length_of : FunD K "length_of" "length_of" (defArgs s_length_of) (defBody s_length_of) (defScope s_length_of) [] [] (He.ga K "length_of") fd_length_of
  g_date_in : mg "date_in" = some (.ref (He.ga K "date_in"))
  fd_date_in : FuncData
  F_date_in : FunD K "date_in" "date_in" (defArgs s_date_in) (defBody s_date_in) (defScope s_date_in) [] [] (He.ga K "date_in") fd_date_in
  g_check_times : mg "check_times" = some (.ref (He.ga K "check_times"))
  fd_check_times : FuncData
  F_check_times : FunD K "check_times" "check_times" (defArgs s_check_times) (defBody s_check_times) (defScope s_check_times) [] [] (He.ga K "check_times") fd_check_times
  g_renew : mg "renew" = some (.ref (He.ga K "renew"))
  fd_renew : FuncData
  F_renew : FunD K "renew" "renew" (defArgs s_renew) (defBody s_renew) (defScope s_renew) [] [] (He.ga K "renew") fd_renew
  g_anchored : mg "anchored" = some (.ref (He.ga K "anchored"))
  fd_anchored : FuncData
  F_anchored : FunD K "anchored" "anchored" (defArgs s_anchored) (defBody s_anchored) (defScope s_anchored) [] [] (He.ga K "anchored") fd_anchored
  g_renewal_dates : mg "renewal_dates" = some (.ref (He.ga K "renewal_dates"))
  fd_renewal_dates : FuncData
  F_renewal_dates : FunD K "renewal_dates" "renewal_dates" (defArgs s_renewal_dates) (defBody s_renewal_dates) (defScope s_renewal_dates) [] [] (He.ga K "renewal_dates") fd_renewal_dates
  g_law_pool : mg "_law_pool" = some (.ref (He.ga K "_law_pool"))
  fd_law_pool : FuncData
  F_law_pool : FunD K "_law_pool" "_law_pool" (defArgs s_law_pool) (defBody s_law_pool) (defScope s_law_pool) [] [] (He.ga K "_law_pool") fd_law_pool
  g_law_draw : mg "_law_draw" = some (.ref (He.ga K "_law_draw"))
  fd_law_draw : FuncData
  F_law_draw : FunD K "_law_draw" "_law_draw" (defArgs s_law_draw) (defBody s_law_draw) (defScope s_law_draw) [] [] (He.ga K "_law_draw") fd_law_draw
  g_law_days : mg "_law_days" = some (.ref (He.ga K "_law_days"))
  fd_law_days : FuncData
  F_law_days : FunD K "_law_days" "_law_days" (defArgs s_law_days) (defBody s_law_days) (defScope s_law_days) [] [] (He.ga K "_law_days") fd_law_days
  g_law_great : mg "_law_great" = some (.ref (He.ga K "_law_great"))
  fd_law_great : FuncData
  F_law_great : FunD K "_law_great" "_law_great" (defArgs s_law_great) (defBody s_law_great) (defScope s_law_great) [] [] (He.ga K "_law_great") fd_law_great
  g_law_date : mg "_law_date" = some (.ref (He.ga K "_law_date"))
  fd_law_date : FuncData
  F_law_date : FunD K "_law_date" "_law_date" (defArgs s_law_date) (defBody s_law_date) (defScope s_law_date) [] [] (He.ga K "_law_date") fd_law_date
  g_law_stride : mg "_law_stride" = some (.ref (He.ga K "_law_stride"))
  fd_law_stride : FuncData
  F_law_stride : FunD K "_law_stride" "_law_stride" (defArgs s_law_stride) (defBody s_law_stride) (defScope s_law_stride) [] [] (He.ga K "_law_stride") fd_law_stride
  g_law_along : mg "_law_along" = some (.ref (He.ga K "_law_along"))
  fd_law_along : FuncData
  F_law_along : FunD K "_law_along" "_law_along" (defArgs s_law_along) (defBody s_law_along) (defScope s_law_along) [] [] (He.ga K "_law_along") fd_law_along
  g_law_first : mg "_law_first" = some (.ref (He.ga K "_law_first"))
  fd_law_first : FuncData
  F_law_first : FunD K "_law_first" "_law_first" (defArgs s_law_first) (defBody s_law_first) (defScope s_law_first) [] [] (He.ga K "_law_first") fd_law_first
  g_law_right : mg "_law_right" = some (.ref (He.ga K "_law_right"))
  fd_law_right : FuncData
  F_law_right : FunD K "_law_right" "_law_right" (defArgs s_law_right) (defBody s_law_right) (defScope s_law_right) [] [] (He.ga K "_law_right") fd_law_right
  g_law : mg "law" = some (.ref (He.ga K "law"))
  fd_law : FuncData
  F_law : FunD K "law" "law" (defArgs s_law) (defBody s_law) (defScope s_law) [] [] (He.ga K "law") fd_law
  b_abs : mg "abs" = none
  b_int : mg "int" = none
  b_isinstance : mg "isinstance" = none
  b_len : mg "len" = none
  b_max : mg "max" = none
  b_min : mg "min" = none
  b_range : mg "range" = none
  b_tuple : mg "tuple" = none
  b_zip : mg "zip" = none
  c_CYCLE : { t : Tok // mg "CYCLE" = some (.int (4800) t) }
  c_FEBRUARY : { t : Tok // mg "FEBRUARY" = some (.int (2) t) }
  c_MONTHS : { t : Tok // mg "MONTHS" = some (.int (12) t) }
  g_SHORT_MONTHS : mg "SHORT_MONTHS" = some (.ref (He.ga K "SHORT_MONTHS"))
  t_SHORT_MONTHS : ∀ H : Hp, SqT K H (He.ga K "SHORT_MONTHS") [.int (4), .int (6), .int (9), .int (11)]
section
variable {P : Program} {w : World} {K : PySem.W.Frag} {mg : Str → Option Value} {base : Heap}
theorem start_is_leap (v0 : V) : L2.start N_is_leap [v0] = [some v0] := rfl
theorem b_is_leap (T : Txt K mg) : Binds K T.fd_is_leap ["year"] [] := T.F_is_leap.bindsN fun _ _ _ _ _ _ us hl => match us, hl with | [_], _ => rfl
theorem start_is_month (v0 : V) : L2.start N_is_month [v0] = [some v0] := rfl
theorem b_is_month (T : Txt K mg) : Binds K T.fd_is_month ["month"] [] := T.F_is_month.bindsN fun _ _ _ _ _ _ us hl => match us, hl with | [_], _ => rfl
theorem start_length_of_month (v0 v1 : V) : L2.start N_length_of_month [v0, v1] = [some v0, some v1] := rfl
theorem b_length_of_month (T : Txt K mg) : Binds K T.fd_length_of_month ["year", "month"] [] := T.F_length_of_month.bindsN fun _ _ _ _ _ _ us hl => match us, hl with | [_, _], _ => rfl
theorem start_is_date (v0 : V) : L2.start N_is_date [v0] = [some v0, none, none, none] := rfl
theorem b_is_date (T : Txt K mg) : Binds K T.fd_is_date ["date"] [] := T.F_is_date.bindsN fun _ _ _ _ _ _ us hl => match us, hl with | [_], _ => rfl
theorem start_check_date (v0 : V) : L2.start N_check_date [v0] = [some v0] := rfl
theorem b_check_date (T : Txt K mg) : Binds K T.fd_check_date ["date"] [] := T.F_check_date.bindsN fun _ _ _ _ _ _ us hl => match us, hl with | [_], _ => rfl
theorem start_month_number (v0 : V) : L2.start N_month_number [v0] = [some v0] := rfl
theorem b_month_number (T : Txt K mg) : Binds K T.fd_month_number ["date"] [] := T.F_month_number.bindsN fun _ _ _ _ _ _ us hl => match us, hl with | [_], _ => rfl
theorem start_length_of (v0 : V) : L2.start N_length_of [v0] = [some v0] := rfl
theorem b_length_of (T : Txt K mg) : Binds K T.fd_length_of ["number"] [] := T.F_length_of.bindsN fun _ _ _ _ _ _ us hl => match us, hl with | [_], _ => rfl
theorem start_date_in (v0 v1 : V) : L2.start N_date_in [v0, v1] = [some v0, some v1] := rfl
theorem b_date_in (T : Txt K mg) : Binds K T.fd_date_in ["number", "day"] [] := T.F_date_in.bindsN fun _ _ _ _ _ _ us hl => match us, hl with | [_, _], _ => rfl
theorem start_check_times (v0 : V) : L2.start N_check_times [v0] = [some v0] := rfl
theorem b_check_times (T : Txt K mg) : Binds K T.fd_check_times ["times"] [] := T.F_check_times.bindsN fun _ _ _ _ _ _ us hl => match us, hl with | [_], _ => rfl
theorem start_renew (v0 v1 v2 : V) : L2.start N_renew [v0, v1, v2] = [some v0, some v1, some v2, none, none, none] := rfl
theorem b_renew (T : Txt K mg) : Binds K T.fd_renew ["date", "step", "times"] [] := T.F_renew.bindsN fun _ _ _ _ _ _ us hl => match us, hl with | [_, _, _], _ => rfl
theorem start_anchored (v0 v1 v2 : V) : L2.start N_anchored [v0, v1, v2] = [some v0, some v1, some v2, none] := rfl
theorem b_anchored (T : Txt K mg) : Binds K T.fd_anchored ["date", "step", "times"] [] := T.F_anchored.bindsN fun _ _ _ _ _ _ us hl => match us, hl with | [_, _, _], _ => rfl
theorem start_renewal_dates (v0 v1 : V) : L2.start N_renewal_dates [v0, v1] = [some v0, some v1, none, none] := rfl
theorem b_renewal_dates (T : Txt K mg) : Binds K T.fd_renewal_dates ["date", "step"] [] := T.F_renewal_dates.bindsN fun _ _ _ _ _ _ us hl => match us, hl with | [_, _], _ => rfl
theorem start_law_pool (v0 v1 : V) : L2.start N_law_pool [v0, v1] = [some v0, some v1, none] := rfl
theorem b_law_pool (T : Txt K mg) : Binds K T.fd_law_pool ["script", "at"] [] := T.F_law_pool.bindsN fun _ _ _ _ _ _ us hl => match us, hl with | [_, _], _ => rfl
theorem start_law_draw (v0 v1 : V) : L2.start N_law_draw [v0, v1] = [some v0, some v1, none, none] := rfl
theorem b_law_draw (T : Txt K mg) : Binds K T.fd_law_draw ["pool", "many"] [] := T.F_law_draw.bindsN fun _ _ _ _ _ _ us hl => match us, hl with | [_, _], _ => rfl
theorem start_law_days (v0 : V) : L2.start N_law_days [v0] = [some v0, none, none] := rfl
theorem b_law_days (T : Txt K mg) : Binds K T.fd_law_days ["number"] [] := T.F_law_days.bindsN fun _ _ _ _ _ _ us hl => match us, hl with | [_], _ => rfl
theorem start_law_great (v0 : V) : L2.start N_law_great [v0] = [some v0, none] := rfl
theorem b_law_great (T : Txt K mg) : Binds K T.fd_law_great ["pool"] [] := T.F_law_great.bindsN fun _ _ _ _ _ _ us hl => match us, hl with | [_], _ => rfl
theorem start_law_date (v0 : V) : L2.start N_law_date [v0] = [some v0, none, none, none, none] := rfl
theorem b_law_date (T : Txt K mg) : Binds K T.fd_law_date ["pool"] [] := T.F_law_date.bindsN fun _ _ _ _ _ _ us hl => match us, hl with | [_], _ => rfl
theorem start_law_stride (v0 v1 : V) : L2.start N_law_stride [v0, v1] = [some v0, some v1, none] := rfl
theorem b_law_stride (T : Txt K mg) : Binds K T.fd_law_stride ["pool", "most"] [] := T.F_law_stride.bindsN fun _ _ _ _ _ _ us hl => match us, hl with | [_, _], _ => rfl
theorem start_law_along (v0 v1 : V) : L2.start N_law_along [v0, v1] = [some v0, some v1, none, none, none, none] := rfl
theorem b_law_along (T : Txt K mg) : Binds K T.fd_law_along ["begun", "strides"] [] := T.F_law_along.bindsN fun _ _ _ _ _ _ us hl => match us, hl with | [_, _], _ => rfl
theorem start_law_first (v0 v1 v2 : V) : L2.start N_law_first [v0, v1, v2] = [some v0, some v1, some v2, none, none] := rfl
theorem b_law_first (T : Txt K mg) : Binds K T.fd_law_first ["begun", "stride", "many"] [] := T.F_law_first.bindsN fun _ _ _ _ _ _ us hl => match us, hl with | [_, _, _], _ => rfl
theorem start_law_right (v0 : V) : L2.start N_law_right [v0] = [some v0, none, none, none, none, none, none, none, none, none, none, none, none] := rfl
theorem b_law_right (T : Txt K mg) : Binds K T.fd_law_right ["pool"] [] := T.F_law_right.bindsN fun _ _ _ _ _ _ us hl => match us, hl with | [_], _ => rfl
theorem start_law (v0 : V) : L2.start N_law [v0] = [some v0, none, none, none, none, none] := rfl
theorem b_law (T : Txt K mg) : Binds K T.fd_law ["script"] [] := T.F_law.bindsN fun _ _ _ _ _ _ us hl => match us, hl with | [_], _ => rfl
theorem kb_anchored_0_date_step_times (T : Txt K mg) : KBn K T.fd_anchored ["date", "step", "times"] 0 ["date", "step", "times"] (gP .none [0, 1, 2]) (gP .non [0, 1, 2]) := kb_of T.F_anchored fun _ _ _ _ _ _ us ws h1 h2 => match us, ws, h1, h2 with | [], [_, _, _], _, _ => rfl
theorem kb_renew_0_date_step_times (T : Txt K mg) : KBn K T.fd_renew ["date", "step", "times"] 0 ["date", "step", "times"] (gP .none [0, 1, 2]) (gP .non [0, 1, 2]) := kb_of T.F_renew fun _ _ _ _ _ _ us ws h1 h2 => match us, ws, h1, h2 with | [], [_, _, _], _, _ => rfl
theorem kb_renewal_dates_0_step_date (T : Txt K mg) : KBn K T.fd_renewal_dates ["date", "step"] 0 ["step", "date"] (gP .none [1, 0]) (gP .non [1, 0]) := kb_of T.F_renewal_dates fun _ _ _ _ _ _ us ws h1 h2 => match us, ws, h1, h2 with | [], [_, _], _, _ => rfl
end
end Mc
namespace Mc
open PySem PySem.Spec PyProof.Rows L2
local macro_rules | `(tactic| lcg_src) => `(tactic| first
  | with_reducible assumption
  | ((with_reducible apply Ne.symm); with_reducible assumption)
  | ((with_reducible apply ne_nf); (with_reducible assumption); lcg_off)
  | ((with_reducible apply Ne.symm); (with_reducible apply ne_nf); (with_reducible assumption); lcg_off))
local macro_rules | `(tactic| lcg_off) => `(tactic| first
  | with_reducible assumption
  | (with_reducible exact upd_same)
  | ((with_reducible apply hp_ne); lcg_src; lcg_off)
  | ((with_reducible apply hp_same); (with_reducible assumption); lcg_off)
  | ((with_reducible apply hp_frm); (with_reducible assumption); lcg_src; lcg_off)
  | ((with_reducible apply hp_frm2); (with_reducible assumption); lcg_src; lcg_src; lcg_off)
  | assumption)
local macro_rules | `(tactic| kpt_turns) => `(tactic| first
  | with_reducible assumption
  | ((with_reducible apply SqL.of); lcg_off)
  | ((with_reducible apply SqT.of); lcg_off)
  | ((with_reducible apply Frm.seq); (with_reducible assumption); lcg_src; kpt_turns)
  | ((with_reducible apply Frm.tup); (with_reducible assumption); lcg_src; kpt_turns)
  | ((with_reducible apply Frm2.seq); (with_reducible assumption); lcg_src; lcg_src; kpt_turns)
  | ((with_reducible apply Frm2.tup); (with_reducible assumption); lcg_src; lcg_src; kpt_turns)
  | ((with_reducible apply L2.Same.seq); (with_reducible assumption); kpt_turns)
  | ((with_reducible apply Same.tup); (with_reducible assumption); kpt_turns)
  | assumption)
local macro_rules | `(tactic| k_memK) => `(tactic| first
  | with_reducible exact Frm.refl _
  | with_reducible assumption
  | ((with_reducible apply Frm.trN); (with_reducible assumption); k_memK)
  | ((with_reducible apply Frm.trU); k_memK)
  | ((with_reducible apply Frm.trM); (with_reducible assumption); k_memK)
  | ((with_reducible apply Frm.tr); (with_reducible assumption); k_memK)
  | ((with_reducible apply Frm.trS); (with_reducible assumption); k_memK)
  | with_reducible exact Frm2.refl _
  | ((with_reducible apply Frm2.trN); (with_reducible assumption); k_memK)
  | ((with_reducible apply Frm2.trU); k_memK)
  | ((with_reducible apply Frm2.trV); k_memK)
  | ((with_reducible apply Frm2.trM); (with_reducible assumption); k_memK)
  | ((with_reducible apply Frm2.tr); (with_reducible assumption); k_memK)
  | ((with_reducible apply Frm2.trS); (with_reducible assumption); k_memK))
local macro_rules | `(tactic| k_allIn) => `(tactic| first
  | with_reducible exact L2.Same.refl _
  | with_reducible assumption
  | ((with_reducible apply same_trN); (with_reducible assumption); k_allIn)
  | ((with_reducible apply same_trU); (with_reducible assumption); k_allIn)
  | ((with_reducible apply same_tr); (with_reducible assumption); k_allIn))
local macro_rules | `(tactic| k_ownIn) => `(tactic| first
  | with_reducible refine st_seq ?_
  | ((with_reducible refine' st_setF ?e ?_); (case e => intro x; (simp only [List.set_cons_zero, List.set_cons_succ]; exact rfl)))
  | with_reducible refine st_c ?_
  | ((with_reducible refine' st_var ?h ?_); (case h => exact rfl))
  | with_reducible refine st_op ?_
  | with_reducible refine st_I0 ?_
  | ((with_reducible refine' st_powL ?c ?e ?_); (case c => exact ⟨by decide, by decide, by decide⟩); (case e => (simp only [Int.reduceToNat, Int.reducePow]; exact rfl)))
  | ((with_reducible refine st_I ?h ?_); (case h => first | with_reducible assumption | (show (0 : Int) < _; omega) | exact ⟨by omega, by omega⟩ | exact .inl ⟨by omega, by omega⟩ | exact .inr ⟨by omega, by omega⟩ | exact ⟨by omega, by omega, by omega⟩))
  | with_reducible refine st_nil ?_
  | with_reducible refine st_cons ?_
  | with_reducible refine st_ret ?_
  | with_reducible refine st_call ?_
  | with_reducible refine st_cb ?_
  | with_reducible refine st_exb ?_
  | ((with_reducible refine' st_ixL ?h1 ?h2 ?_); (case h1 => kpt_turns); (case h2 => first | ((with_reducible apply at0); exact rfl) | ((with_reducible apply at1); exact rfl) | ((with_reducible apply at2); exact rfl) | ((with_reducible apply at3); exact rfl) | with_reducible assumption))
  | ((with_reducible refine' st_ixT ?h1 ?h2 ?_); (case h1 => kpt_turns); (case h2 => first | ((with_reducible apply at0); exact rfl) | ((with_reducible apply at1); exact rfl) | ((with_reducible apply at2); exact rfl) | with_reducible assumption))
  | ((with_reducible refine' st_ixP ?h1 ?h2 ?h3 ?h4 ?_); (case h1 => kpt_turns); (case h2 => (repeat constructor)); (case h3 => omega); (case h4 => (simp; omega)))
  | ((with_reducible refine' st_ixPT ?h1 ?h2 ?h3 ?h4 ?_); (case h1 => kpt_turns); (case h2 => (repeat constructor)); (case h3 => omega); (case h4 => (simp; omega)))
  | with_reducible refine st_tB ?_
  | with_reducible refine st_test ?_
  | with_reducible refine st_and ?_
  | with_reducible refine st_or ?_
  | with_reducible refine st_not ?_
  | with_reducible refine st_andV ?_
  | with_reducible refine st_orV ?_
  | with_reducible refine st_notV ?_
  | with_reducible refine st_chain ?_
  | with_reducible refine st_iT ?_
  | with_reducible refine st_iF ?_
  | with_reducible refine st_iNT ?_
  | with_reducible refine st_iNF ?_
  | with_reducible refine st_iRf ?_
  | with_reducible refine st_iNRf ?_
  | with_reducible refine st_asg ?_
  | ((with_reducible refine' st_parF ?e ?_); (case e => intro x y; (simp only [List.set_cons_zero, List.set_cons_succ]; exact rfl)))
  | with_reducible refine st_par2 ?_
  | with_reducible refine st_fst ?_
  | with_reducible refine st_jsE ?_
  | with_reducible refine st_js ?_
  | with_reducible refine st_fmt ?_
  | with_reducible refine st_joinK ?_
  | with_reducible refine st_strx ?_
  | ((with_reducible refine' st_par3F ?e ?_); (case e => intro x y z; (simp only [List.set_cons_zero, List.set_cons_succ]; exact rfl)))
  | with_reducible refine st_par3 ?_
  | ((with_reducible refine' st_augF ?h ?e ?_); (case h => exact rfl); (case e => intro x; (simp only [List.set_cons_zero, List.set_cons_succ]; exact rfl)))
  | with_reducible refine st_ipI ?_
  | with_reducible refine st_drop ?_
  | with_reducible refine st_next ?_
  | with_reducible refine st_un ?_
  | with_reducible refine st_U ?_
  | ((with_reducible refine' st_gNF ?e ?_); (case e => (simp only [List.set_cons_zero, List.set_cons_succ]; exact rfl)))
  | with_reducible refine st_gN ?_
  | ((with_reducible refine' st_gT ?h1 ?h2 ?_); (case h1 => kpt_turns); (case h2 => exact rfl))
  | with_reducible refine st_gC ?_
  | with_reducible refine st_gE ?_
  | with_reducible refine st_gS ?_
  | ((with_reducible refine' st_setL ?h1 ?h2 ?_); (case h1 => lcg_off); (case h2 => exact rfl))
  | with_reducible refine st_lst ?_
  | with_reducible refine st_tup ?_
  | ((with_reducible refine st_new ?h ?_); (case h => (simp; done)))
  | with_reducible refine st_callN ?_
  | with_reducible refine st_bm ?_
  | with_reducible refine st_bm0 ?_
  | ((with_reducible refine' st_tyL ?h ?_); (case h => kpt_turns))
  | ((with_reducible refine st_eq ?h ?_); (case h => exact rfl))
  | ((with_reducible refine st_ne ?h ?_); (case h => exact rfl))
  | with_reducible refine st_i1 ?_
  | with_reducible refine st_i2 ?_
  | with_reducible refine st_int ?_
  | with_reducible refine st_intb ?_
  | ((with_reducible refine' st_lenQ ?h ?_); (case h => kpt_turns))
  | ((with_reducible refine' st_lenQT ?h ?_); (case h => kpt_turns))
  | with_reducible refine st_yes ?_
  | with_reducible refine st_brk ?_
  | with_reducible refine st_cont ?_
  | with_reducible refine st_retN ?_
  | with_reducible refine st_forI ?_
  | with_reducible refine st_lcI ?_
  | with_reducible refine st_itL ?_
  | with_reducible refine st_itT ?_
  | with_reducible refine st_rng1 ?_
  | with_reducible refine st_rng2 ?_
  | with_reducible refine st_ref ?_
  | with_reducible refine st_sl ?_
  | with_reducible refine st_pN ?_
  | with_reducible refine st_pS ?_
  | with_reducible refine st_pI ?_
  | (refine ⟨rfl, ?_⟩))
local macro_rules | `(tactic| cell_call) => `(tactic| first
  | with_reducible refine st_seq ?_
  | ((with_reducible refine' st_setF ?e ?_); (case e => intro x; (simp only [List.set_cons_zero, List.set_cons_succ]; exact rfl)))
  | with_reducible refine st_c ?_
  | ((with_reducible refine' st_var ?h ?_); (case h => exact rfl))
  | with_reducible refine st_op ?_
  | with_reducible refine st_I0 ?_
  | ((with_reducible refine' st_powL ?c ?e ?_); (case c => exact ⟨by decide, by decide, by decide⟩); (case e => (simp only [Int.reduceToNat, Int.reducePow]; exact rfl)))
  | ((with_reducible refine st_I ?h ?_); (case h => first | with_reducible assumption | (show (0 : Int) < _; omega) | exact ⟨by omega, by omega⟩ | exact .inl ⟨by omega, by omega⟩ | exact .inr ⟨by omega, by omega⟩ | exact ⟨by omega, by omega, by omega⟩))
  | with_reducible refine st_nil ?_
  | with_reducible refine st_cons ?_
  | with_reducible refine st_ret ?_
  | with_reducible refine st_call ?_
  | with_reducible refine st_cb ?_
  | with_reducible refine st_exb ?_
  | ((with_reducible refine' st_ixL ?h1 ?h2 ?_); (case h1 => kpt_turns); (case h2 => first | ((with_reducible apply at0); exact rfl) | ((with_reducible apply at1); exact rfl) | ((with_reducible apply at2); exact rfl) | ((with_reducible apply at3); exact rfl) | with_reducible assumption))
  | ((with_reducible refine' st_ixT ?h1 ?h2 ?_); (case h1 => kpt_turns); (case h2 => first | ((with_reducible apply at0); exact rfl) | ((with_reducible apply at1); exact rfl) | ((with_reducible apply at2); exact rfl) | with_reducible assumption))
  | ((with_reducible refine' st_ixP ?h1 ?h2 ?h3 ?h4 ?_); (case h1 => kpt_turns); (case h2 => (repeat constructor)); (case h3 => omega); (case h4 => (simp; omega)))
  | ((with_reducible refine' st_ixPT ?h1 ?h2 ?h3 ?h4 ?_); (case h1 => kpt_turns); (case h2 => (repeat constructor)); (case h3 => omega); (case h4 => (simp; omega)))
  | with_reducible refine st_tB ?_
  | with_reducible refine st_test ?_
  | with_reducible refine st_and ?_
  | with_reducible refine st_or ?_
  | with_reducible refine st_not ?_
  | with_reducible refine st_andV ?_
  | with_reducible refine st_orV ?_
  | with_reducible refine st_notV ?_
  | with_reducible refine st_chain ?_
  | with_reducible refine st_iT ?_
  | with_reducible refine st_iF ?_
  | with_reducible refine st_iNT ?_
  | with_reducible refine st_iNF ?_
  | with_reducible refine st_iRf ?_
  | with_reducible refine st_iNRf ?_
  | with_reducible refine st_asg ?_
  | ((with_reducible refine' st_parF ?e ?_); (case e => intro x y; (simp only [List.set_cons_zero, List.set_cons_succ]; exact rfl)))
  | with_reducible refine st_par2 ?_
  | with_reducible refine st_fst ?_
  | with_reducible refine st_jsE ?_
  | with_reducible refine st_js ?_
  | with_reducible refine st_fmt ?_
  | with_reducible refine st_joinK ?_
  | with_reducible refine st_strx ?_
  | ((with_reducible refine' st_par3F ?e ?_); (case e => intro x y z; (simp only [List.set_cons_zero, List.set_cons_succ]; exact rfl)))
  | with_reducible refine st_par3 ?_
  | ((with_reducible refine' st_augF ?h ?e ?_); (case h => exact rfl); (case e => intro x; (simp only [List.set_cons_zero, List.set_cons_succ]; exact rfl)))
  | with_reducible refine st_ipI ?_
  | with_reducible refine st_drop ?_
  | with_reducible refine st_next ?_
  | with_reducible refine st_un ?_
  | with_reducible refine st_U ?_
  | ((with_reducible refine' st_gNF ?e ?_); (case e => (simp only [List.set_cons_zero, List.set_cons_succ]; exact rfl)))
  | with_reducible refine st_gN ?_
  | ((with_reducible refine' st_gT ?h1 ?h2 ?_); (case h1 => kpt_turns); (case h2 => exact rfl))
  | with_reducible refine st_gC ?_
  | with_reducible refine st_gE ?_
  | with_reducible refine st_gS ?_
  | ((with_reducible refine' st_setL ?h1 ?h2 ?_); (case h1 => lcg_off); (case h2 => exact rfl))
  | with_reducible refine st_lst ?_
  | with_reducible refine st_tup ?_
  | ((with_reducible refine st_new ?h ?_); (case h => (simp; done)))
  | with_reducible refine st_callN ?_
  | with_reducible refine st_bm ?_
  | with_reducible refine st_bm0 ?_
  | ((with_reducible refine' st_tyL ?h ?_); (case h => kpt_turns))
  | ((with_reducible refine st_eq ?h ?_); (case h => exact rfl))
  | ((with_reducible refine st_ne ?h ?_); (case h => exact rfl))
  | with_reducible refine st_i1 ?_
  | with_reducible refine st_i2 ?_
  | with_reducible refine st_int ?_
  | with_reducible refine st_intb ?_
  | ((with_reducible refine' st_lenQ ?h ?_); (case h => kpt_turns))
  | ((with_reducible refine' st_lenQT ?h ?_); (case h => kpt_turns))
  | with_reducible refine st_yes ?_
  | with_reducible refine st_brk ?_
  | with_reducible refine st_cont ?_
  | with_reducible refine st_retN ?_
  | with_reducible refine st_forI ?_
  | with_reducible refine st_lcI ?_
  | with_reducible refine st_itL ?_
  | with_reducible refine st_itT ?_
  | with_reducible refine st_rng1 ?_
  | with_reducible refine st_rng2 ?_
  | with_reducible refine st_ref ?_
  | with_reducible refine st_sl ?_
  | with_reducible refine st_pN ?_
  | with_reducible refine st_pS ?_
  | with_reducible refine st_pI ?_
  | (refine ⟨rfl, ?_⟩)
  | with_reducible refine st_ifE ?_
  | with_reducible refine st_ifS ?_)
local macro_rules | `(tactic| kpf_close) => `(tactic| first
  | cell_call
  | refine st_iD (fun _ => ?_) (fun _ => ?_)
  | refine st_iND (fun _ => ?_) (fun _ => ?_)
  | refine st_iNB (fun _ => ?_) (fun _ => ?_)
  | refine st_iB (fun _ => ?_) (fun _ => ?_))
local macro_rules | `(tactic| k_places) => `(tactic| first
  | with_reducible refine isi_non_bool ?_
  | with_reducible refine isi_non_int ?_
  | with_reducible refine isi_non_str ?_
  | with_reducible refine isi_non_list ?_
  | with_reducible refine isi_non_tuple ?_
  | with_reducible refine isi_bl_bool ?_
  | with_reducible refine isi_bl_int ?_
  | with_reducible refine isi_bl_str ?_
  | with_reducible refine isi_bl_list ?_
  | with_reducible refine isi_bl_tuple ?_
  | with_reducible refine isi_int_bool ?_
  | with_reducible refine isi_int_int ?_
  | with_reducible refine isi_int_str ?_
  | with_reducible refine isi_int_list ?_
  | with_reducible refine isi_int_tuple ?_
  | with_reducible refine isi_str_bool ?_
  | with_reducible refine isi_str_int ?_
  | with_reducible refine isi_str_str ?_
  | with_reducible refine isi_str_list ?_
  | with_reducible refine isi_str_tuple ?_
  | ((with_reducible refine' isi_list_bool ?h ?_); (case h => kpt_turns))
  | ((with_reducible refine' isi_list_int ?h ?_); (case h => kpt_turns))
  | ((with_reducible refine' isi_list_str ?h ?_); (case h => kpt_turns))
  | ((with_reducible refine' isi_list_list ?h ?_); (case h => kpt_turns))
  | ((with_reducible refine' isi_list_tuple ?h ?_); (case h => kpt_turns))
  | ((with_reducible refine' isi_tuple_bool ?h ?_); (case h => kpt_turns))
  | ((with_reducible refine' isi_tuple_int ?h ?_); (case h => kpt_turns))
  | ((with_reducible refine' isi_tuple_str ?h ?_); (case h => kpt_turns))
  | ((with_reducible refine' isi_tuple_list ?h ?_); (case h => kpt_turns))
  | ((with_reducible refine' isi_tuple_tuple ?h ?_); (case h => kpt_turns)))
section
variable {P : Program} {w : World} {K : PySem.W.Frag} {mg : Str → Option Value} {base : Heap}
def sp_is_leap (K : PySem.W.Frag) : Sp := fun vs H Q _ => ∃ y : Int, vs = [.int y] ∧ Q (.bl (leap y)) H
theorem ok_is_leap (T : Txt K mg) : FnOk P w K mg base CX0 1 (He.ga K "is_leap") T.fd_is_leap ["year"] (sp_is_leap K) := by
  refine T.F_is_leap.ok sc_is_leap (fun vs H Q E h => ?_) (fun cdv A outer s H vs Q E hr h => ?_)
  · obtain ⟨y, rfl, _⟩ := h
    rfl
  · obtain ⟨y, rfl, q⟩ := h
    refine ⟨_, PSs.nox (pss_one (ps_ret (pe_or (pe_and (pe_cmpR op_eqI (pe_op op_mod (pv 0) pe_int) pe_int (nomark _)) (pe_one (pe_cmpR op_neI (pe_op op_mod (pv 0) pe_int) pe_int (nomark _)))) (pe_one (pe_cmpR op_eqI (pe_op op_mod (pv 0) pe_int) pe_int (nomark _)))))), ?_⟩
    rw [start_is_leap]
    repeat' kpf_close
    all_goals (refine q_of q ?_; simp_all [leap])

def sp_is_month (K : PySem.W.Frag) : Sp := fun vs H Q _ => ∃ m : Int, vs = [.int m] ∧ Q (.bl (decide (1 ≤ m ∧ m ≤ 12))) H
theorem ok_is_month (T : Txt K mg) : FnOk P w K mg base CX0 1 (He.ga K "is_month") T.fd_is_month ["month"] (sp_is_month K) := by
  refine T.F_is_month.ok sc_is_month (fun vs H Q E h => ?_) (fun cdv A outer s H vs Q E hr h => ?_)
  · obtain ⟨y, rfl, _⟩ := h
    rfl
  · obtain ⟨y, rfl, q⟩ := h
    refine ⟨_, PSs.nox (pss_one (ps_ret (pe_chain op_le op_le pe_int (pv 0) pe_int))), ?_⟩
    rw [start_is_month]
    repeat' kpf_close
    all_goals (refine q_of q ?_; congr 1; first | (simp_all; done) | (simp_all; omega))

def sp_length_of_month (K : PySem.W.Frag) : Sp := fun vs H Q _ => ∃ y m : Int, vs = [.int y, .int m] ∧ Q (.int (mlen y m)) H
theorem ok_length_of_month (T : Txt K mg) : FnOk P w K mg base CX0 2 (He.ga K "length_of_month") T.fd_length_of_month ["year", "month"] (sp_length_of_month K) := by
  refine T.F_length_of_month.ok sc_length_of_month (fun vs H Q E h => ?_) (fun cdv A outer s H vs Q E hr h => ?_)
  · obtain ⟨y, m, rfl, _⟩ := h
    rfl
  · obtain ⟨y, m, rfl, q⟩ := h
    refine ⟨_, PSs.nox (pss_cons (ps_if (pt_cmpR op_eqI (pv 1) (pe_glob (v := .int (2)) rfl T.c_FEBRUARY.2 ⟨_, rfl⟩) (nomark _)) (pss_one (ps_ret (pe_ifExp (pt_val (pe_call (ok_is_leap T) (hr.mono (by decide)) rfl T.g_is_leap T.F_is_leap.kp (b_is_leap T) .nil pass0 (pa_cons (pv 0) pa_nil))) pe_int pe_int))) pss_nil)
      (pss_one (ps_ret (pe_ifExp (pt_cmpR (show OpR _ _ (rIn K false) from op_in_seq) (pv 1) (pe_glob (v := .ref (He.ga K "SHORT_MONTHS")) rfl T.g_SHORT_MONTHS rfl) (by rfl)) pe_int pe_int)))), ?_⟩
    rw [start_length_of_month]
    repeat cell_call
    refine st_iD (fun hm => ?_) (fun hm => ?_)
    · repeat cell_call
      refine ⟨y, rfl, ?_⟩
      repeat cell_call
      refine st_iB (fun hl => ?_) (fun hl => ?_)
      all_goals (refine q_of q ?_; simp_all [mlen])
    · repeat cell_call
      refine st_in (.inr (T.t_SHORT_MONTHS _)) rfl rfl ?_
      repeat cell_call
      rw [if_neg Bool.false_ne_true, show ([V.int 4, V.int 6, V.int 9, V.int 11] : List V) = [4, 6, 9, 11].map V.int from rfl, in_int]
      refine st_iD (fun hl => ?_) (fun hl => ?_)
      all_goals (refine q_of q ?_; simp_all [mlen])

def sp_is_date (K : PySem.W.Frag) : Sp := fun vs H Q _ => ∃ (D : Addr) (y m d : Int), vs = [.ref D] ∧ SqT K H D [.int y, .int m, .int d] ∧ Q (.bl (dateOk y m d)) H
theorem ok_is_date (T : Txt K mg) : FnOk P w K mg base CX0 3 (He.ga K "is_date") T.fd_is_date ["date"] (sp_is_date K) := by
  refine T.F_is_date.ok sc_is_date (fun vs H Q E h => ?_) (fun cdv A outer s H vs Q E hr h => ?_)
  · obtain ⟨D, y, m, d, rfl, _⟩ := h
    rfl
  · obtain ⟨D, y, m, d, rfl, hD, q⟩ := h
    refine ⟨_, PSs.nox (pss_cons (ps_asg (pv 0) (show PG _ _ (gTup K 3 _) from pg_tup rfl (pgs_cons (pg_name (i := 1) sc_is_date.nd rfl (Or.inl rfl)) (pgs_cons (pg_name (i := 2) sc_is_date.nd rfl (Or.inl rfl)) (pgs_cons (pg_name (i := 3) sc_is_date.nd rfl (Or.inl rfl)) pgs_nil)))))
      (pss_one (ps_ret (pe_and (pe_call (ok_is_month T) (hr.mono (by decide)) rfl T.g_is_month T.F_is_month.kp (b_is_month T) .nil pass0 (pa_cons (pv 2) pa_nil)) (pe_one (pe_chain op_le op_le pe_int (pv 3) (pe_call (ok_length_of_month T) (hr.mono (by decide)) rfl T.g_length_of_month T.F_length_of_month.kp (b_length_of_month T) .nil pass0 (pa_cons (pv 1) (pa_cons (pv 2) pa_nil))))))))), ?_⟩
    rw [start_is_date]
    repeat cell_call
    refine ⟨m, rfl, ?_⟩
    repeat cell_call
    refine st_iD (fun hm => ?_) (fun hm => ?_)
    · repeat cell_call
      refine st_iD (fun hd => ?_) (fun hd => ?_)
      · repeat cell_call
        refine ⟨y, m, rfl, ?_⟩
        repeat cell_call
        all_goals (refine q_of q ?_; congr 1; simp_all [dateOk])
      · all_goals (refine q_of q ?_; congr 1; simp_all [dateOk]; omega)
    · all_goals (refine q_of q ?_; congr 1; simp_all [dateOk]; omega)

def sp_check_date (K : PySem.W.Frag) : Sp := fun vs H Q _ => ∃ (D : Addr) (y m d : Int), vs = [.ref D] ∧ SqT K H D [.int y, .int m, .int d] ∧ dateOk y m d = true ∧ Q .non H
theorem ok_check_date (T : Txt K mg) : FnOk P w K mg base CX0 4 (He.ga K "check_date") T.fd_check_date ["date"] (sp_check_date K) := by
  refine T.F_check_date.ok sc_check_date (fun vs H Q E h => ?_) (fun cdv A outer s H vs Q E hr h => ?_)
  · obtain ⟨D, y, m, d, rfl, _⟩ := h
    rfl
  · obtain ⟨D, y, m, d, rfl, hD, ho, q⟩ := h
    refine ⟨_, PSs.nox (pss_one (ps_if (pt_not (pt_val (pe_call (ok_is_date T) (hr.mono (by decide)) rfl T.g_is_date T.F_is_date.kp (b_is_date T) .nil pass0 (pa_cons (pv 0) pa_nil)))) (pss_one ps_never) pss_nil)), ?_⟩
    rw [start_check_date]
    repeat cell_call
    refine ⟨D, y, m, d, rfl, hD, ?_⟩
    rw [ho]
    repeat cell_call
    exact q

def sp_month_number (K : PySem.W.Frag) : Sp := fun vs H Q _ => ∃ (D : Addr) (y m d : Int), vs = [.ref D] ∧ SqT K H D [.int y, .int m, .int d] ∧ Q (.int (12 * y + m - 1)) H
theorem ok_month_number (T : Txt K mg) : FnOk P w K mg base CX0 1 (He.ga K "month_number") T.fd_month_number ["date"] (sp_month_number K) := by
  refine T.F_month_number.ok sc_month_number (fun vs H Q E h => ?_) (fun cdv A outer s H vs Q E hr h => ?_)
  · obtain ⟨D, y, m, d, rfl, _⟩ := h
    rfl
  · obtain ⟨D, y, m, d, rfl, hD, q⟩ := h
    refine ⟨_, PSs.nox (pss_one (ps_ret (pe_op op_sub (pe_op op_add (pe_op op_mul pe_int (pe_ix (show IxR _ (rIxT K) from ix_tup) (pv 0) pe_int (fun _ _ => rfl))) (pe_ix (show IxR _ (rIxT K) from ix_tup) (pv 0) pe_int (fun _ _ => rfl))) pe_int))), ?_⟩
    rw [start_month_number]
    repeat cell_call
    exact q

def sp_length_of (K : PySem.W.Frag) : Sp := fun vs H Q _ => ∃ n : Int, vs = [.int n] ∧ Q (.int (lenN n)) H
theorem ok_length_of (T : Txt K mg) : FnOk P w K mg base CX0 3 (He.ga K "length_of") T.fd_length_of ["number"] (sp_length_of K) := by
  refine T.F_length_of.ok sc_length_of (fun vs H Q E h => ?_) (fun cdv A outer s H vs Q E hr h => ?_)
  · obtain ⟨n, rfl, _⟩ := h
    rfl
  · obtain ⟨n, rfl, q⟩ := h
    refine ⟨_, PSs.nox (pss_one (ps_ret (pe_call (ok_length_of_month T) (hr.mono (by decide)) rfl T.g_length_of_month T.F_length_of_month.kp (b_length_of_month T) .nil pass0 (pa_cons (pe_op op_fdiv (pv 0) pe_int) (pa_cons (pe_op op_add (pe_op op_mod (pv 0) pe_int) pe_int) pa_nil))))), ?_⟩
    rw [start_length_of]
    repeat cell_call
    exact ⟨_, _, rfl, q⟩

def sp_date_in (K : PySem.W.Frag) : Sp := fun vs H Q _ => ∃ n d : Int, vs = [.int n, .int d] ∧ ∀ p, H p = none → Q (.ref p) (upd H p (.tup [.int (n / 12), .int (n % 12 + 1), .int d]))
theorem ok_date_in (T : Txt K mg) : FnOk P w K mg base CX0 1 (He.ga K "date_in") T.fd_date_in ["number", "day"] (sp_date_in K) := by
  refine T.F_date_in.ok sc_date_in (fun vs H Q E h => ?_) (fun cdv A outer s H vs Q E hr h => ?_)
  · obtain ⟨n, d, rfl, _⟩ := h
    rfl
  · obtain ⟨n, d, rfl, q⟩ := h
    refine ⟨_, PSs.nox (pss_one (ps_ret (pe_tup (pa_cons (pe_op op_fdiv (pv 0) (pe_glob (v := .int (12)) rfl T.c_MONTHS.2 ⟨_, rfl⟩)) (pa_cons (pe_op op_add (pe_op op_mod (pv 0) (pe_glob (v := .int (12)) rfl T.c_MONTHS.2 ⟨_, rfl⟩)) pe_int) (pa_cons (pv 1) pa_nil)))))), ?_⟩
    rw [start_date_in]
    repeat cell_call
    exact q

end
end Mc
namespace Mc
open PySem PySem.Spec PyProof.Rows L2
local macro_rules | `(tactic| lcg_src) => `(tactic| first
  | with_reducible assumption
  | ((with_reducible apply Ne.symm); with_reducible assumption)
  | ((with_reducible apply ne_nf); (with_reducible assumption); lcg_off)
  | ((with_reducible apply Ne.symm); (with_reducible apply ne_nf); (with_reducible assumption); lcg_off))
local macro_rules | `(tactic| lcg_off) => `(tactic| first
  | with_reducible assumption
  | (with_reducible exact upd_same)
  | ((with_reducible apply hp_ne); lcg_src; lcg_off)
  | ((with_reducible apply hp_same); (with_reducible assumption); lcg_off)
  | ((with_reducible apply hp_frm); (with_reducible assumption); lcg_src; lcg_off)
  | ((with_reducible apply hp_frm2); (with_reducible assumption); lcg_src; lcg_src; lcg_off)
  | assumption)
local macro_rules | `(tactic| kpt_turns) => `(tactic| first
  | with_reducible assumption
  | ((with_reducible apply SqL.of); lcg_off)
  | ((with_reducible apply SqT.of); lcg_off)
  | ((with_reducible apply Frm.seq); (with_reducible assumption); lcg_src; kpt_turns)
  | ((with_reducible apply Frm.tup); (with_reducible assumption); lcg_src; kpt_turns)
  | ((with_reducible apply Frm2.seq); (with_reducible assumption); lcg_src; lcg_src; kpt_turns)
  | ((with_reducible apply Frm2.tup); (with_reducible assumption); lcg_src; lcg_src; kpt_turns)
  | ((with_reducible apply L2.Same.seq); (with_reducible assumption); kpt_turns)
  | ((with_reducible apply Same.tup); (with_reducible assumption); kpt_turns)
  | assumption)
local macro_rules | `(tactic| k_memK) => `(tactic| first
  | with_reducible exact Frm.refl _
  | with_reducible assumption
  | ((with_reducible apply Frm.trN); (with_reducible assumption); k_memK)
  | ((with_reducible apply Frm.trU); k_memK)
  | ((with_reducible apply Frm.trM); (with_reducible assumption); k_memK)
  | ((with_reducible apply Frm.tr); (with_reducible assumption); k_memK)
  | ((with_reducible apply Frm.trS); (with_reducible assumption); k_memK)
  | with_reducible exact Frm2.refl _
  | ((with_reducible apply Frm2.trN); (with_reducible assumption); k_memK)
  | ((with_reducible apply Frm2.trU); k_memK)
  | ((with_reducible apply Frm2.trV); k_memK)
  | ((with_reducible apply Frm2.trM); (with_reducible assumption); k_memK)
  | ((with_reducible apply Frm2.tr); (with_reducible assumption); k_memK)
  | ((with_reducible apply Frm2.trS); (with_reducible assumption); k_memK))
local macro_rules | `(tactic| k_allIn) => `(tactic| first
  | with_reducible exact L2.Same.refl _
  | with_reducible assumption
  | ((with_reducible apply same_trN); (with_reducible assumption); k_allIn)
  | ((with_reducible apply same_trU); (with_reducible assumption); k_allIn)
  | ((with_reducible apply same_tr); (with_reducible assumption); k_allIn))
local macro_rules | `(tactic| k_ownIn) => `(tactic| first
  | with_reducible refine st_seq ?_
  | ((with_reducible refine' st_setF ?e ?_); (case e => intro x; (simp only [List.set_cons_zero, List.set_cons_succ]; exact rfl)))
  | with_reducible refine st_c ?_
  | ((with_reducible refine' st_var ?h ?_); (case h => exact rfl))
  | with_reducible refine st_op ?_
  | with_reducible refine st_I0 ?_
  | ((with_reducible refine' st_powL ?c ?e ?_); (case c => exact ⟨by decide, by decide, by decide⟩); (case e => (simp only [Int.reduceToNat, Int.reducePow]; exact rfl)))
  | ((with_reducible refine st_I ?h ?_); (case h => first | with_reducible assumption | (show (0 : Int) < _; omega) | exact ⟨by omega, by omega⟩ | exact .inl ⟨by omega, by omega⟩ | exact .inr ⟨by omega, by omega⟩ | exact ⟨by omega, by omega, by omega⟩))
  | with_reducible refine st_nil ?_
  | with_reducible refine st_cons ?_
  | with_reducible refine st_ret ?_
  | with_reducible refine st_call ?_
  | with_reducible refine st_cb ?_
  | with_reducible refine st_exb ?_
  | ((with_reducible refine' st_ixL ?h1 ?h2 ?_); (case h1 => kpt_turns); (case h2 => first | ((with_reducible apply at0); exact rfl) | ((with_reducible apply at1); exact rfl) | ((with_reducible apply at2); exact rfl) | ((with_reducible apply at3); exact rfl) | with_reducible assumption))
  | ((with_reducible refine' st_ixT ?h1 ?h2 ?_); (case h1 => kpt_turns); (case h2 => first | ((with_reducible apply at0); exact rfl) | ((with_reducible apply at1); exact rfl) | ((with_reducible apply at2); exact rfl) | with_reducible assumption))
  | ((with_reducible refine' st_ixP ?h1 ?h2 ?h3 ?h4 ?_); (case h1 => kpt_turns); (case h2 => (repeat constructor)); (case h3 => omega); (case h4 => (simp; omega)))
  | ((with_reducible refine' st_ixPT ?h1 ?h2 ?h3 ?h4 ?_); (case h1 => kpt_turns); (case h2 => (repeat constructor)); (case h3 => omega); (case h4 => (simp; omega)))
  | with_reducible refine st_tB ?_
  | with_reducible refine st_test ?_
  | with_reducible refine st_and ?_
  | with_reducible refine st_or ?_
  | with_reducible refine st_not ?_
  | with_reducible refine st_andV ?_
  | with_reducible refine st_orV ?_
  | with_reducible refine st_notV ?_
  | with_reducible refine st_chain ?_
  | with_reducible refine st_iT ?_
  | with_reducible refine st_iF ?_
  | with_reducible refine st_iNT ?_
  | with_reducible refine st_iNF ?_
  | with_reducible refine st_iRf ?_
  | with_reducible refine st_iNRf ?_
  | with_reducible refine st_asg ?_
  | ((with_reducible refine' st_parF ?e ?_); (case e => intro x y; (simp only [List.set_cons_zero, List.set_cons_succ]; exact rfl)))
  | with_reducible refine st_par2 ?_
  | with_reducible refine st_fst ?_
  | with_reducible refine st_jsE ?_
  | with_reducible refine st_js ?_
  | with_reducible refine st_fmt ?_
  | with_reducible refine st_joinK ?_
  | with_reducible refine st_strx ?_
  | ((with_reducible refine' st_par3F ?e ?_); (case e => intro x y z; (simp only [List.set_cons_zero, List.set_cons_succ]; exact rfl)))
  | with_reducible refine st_par3 ?_
  | ((with_reducible refine' st_augF ?h ?e ?_); (case h => exact rfl); (case e => intro x; (simp only [List.set_cons_zero, List.set_cons_succ]; exact rfl)))
  | with_reducible refine st_ipI ?_
  | with_reducible refine st_drop ?_
  | with_reducible refine st_next ?_
  | with_reducible refine st_un ?_
  | with_reducible refine st_U ?_
  | ((with_reducible refine' st_gNF ?e ?_); (case e => (simp only [List.set_cons_zero, List.set_cons_succ]; exact rfl)))
  | with_reducible refine st_gN ?_
  | ((with_reducible refine' st_gT ?h1 ?h2 ?_); (case h1 => kpt_turns); (case h2 => exact rfl))
  | with_reducible refine st_gC ?_
  | with_reducible refine st_gE ?_
  | with_reducible refine st_gS ?_
  | ((with_reducible refine' st_setL ?h1 ?h2 ?_); (case h1 => lcg_off); (case h2 => exact rfl))
  | with_reducible refine st_lst ?_
  | with_reducible refine st_tup ?_
  | ((with_reducible refine st_new ?h ?_); (case h => (simp; done)))
  | with_reducible refine st_callN ?_
  | with_reducible refine st_bm ?_
  | with_reducible refine st_bm0 ?_
  | ((with_reducible refine' st_tyL ?h ?_); (case h => kpt_turns))
  | ((with_reducible refine st_eq ?h ?_); (case h => exact rfl))
  | ((with_reducible refine st_ne ?h ?_); (case h => exact rfl))
  | with_reducible refine st_i1 ?_
  | with_reducible refine st_i2 ?_
  | with_reducible refine st_int ?_
  | with_reducible refine st_intb ?_
  | ((with_reducible refine' st_lenQ ?h ?_); (case h => kpt_turns))
  | ((with_reducible refine' st_lenQT ?h ?_); (case h => kpt_turns))
  | with_reducible refine st_yes ?_
  | with_reducible refine st_brk ?_
  | with_reducible refine st_cont ?_
  | with_reducible refine st_retN ?_
  | with_reducible refine st_forI ?_
  | with_reducible refine st_lcI ?_
  | with_reducible refine st_itL ?_
  | with_reducible refine st_itT ?_
  | with_reducible refine st_rng1 ?_
  | with_reducible refine st_rng2 ?_
  | with_reducible refine st_ref ?_
  | with_reducible refine st_sl ?_
  | with_reducible refine st_pN ?_
  | with_reducible refine st_pS ?_
  | with_reducible refine st_pI ?_
  | (refine ⟨rfl, ?_⟩))
local macro_rules | `(tactic| cell_call) => `(tactic| first
  | with_reducible refine st_seq ?_
  | ((with_reducible refine' st_setF ?e ?_); (case e => intro x; (simp only [List.set_cons_zero, List.set_cons_succ]; exact rfl)))
  | with_reducible refine st_c ?_
  | ((with_reducible refine' st_var ?h ?_); (case h => exact rfl))
  | with_reducible refine st_op ?_
  | with_reducible refine st_I0 ?_
  | ((with_reducible refine' st_powL ?c ?e ?_); (case c => exact ⟨by decide, by decide, by decide⟩); (case e => (simp only [Int.reduceToNat, Int.reducePow]; exact rfl)))
  | ((with_reducible refine st_I ?h ?_); (case h => first | with_reducible assumption | (show (0 : Int) < _; omega) | exact ⟨by omega, by omega⟩ | exact .inl ⟨by omega, by omega⟩ | exact .inr ⟨by omega, by omega⟩ | exact ⟨by omega, by omega, by omega⟩))
  | with_reducible refine st_nil ?_
  | with_reducible refine st_cons ?_
  | with_reducible refine st_ret ?_
  | with_reducible refine st_call ?_
  | with_reducible refine st_cb ?_
  | with_reducible refine st_exb ?_
  | ((with_reducible refine' st_ixL ?h1 ?h2 ?_); (case h1 => kpt_turns); (case h2 => first | ((with_reducible apply at0); exact rfl) | ((with_reducible apply at1); exact rfl) | ((with_reducible apply at2); exact rfl) | ((with_reducible apply at3); exact rfl) | with_reducible assumption))
  | ((with_reducible refine' st_ixT ?h1 ?h2 ?_); (case h1 => kpt_turns); (case h2 => first | ((with_reducible apply at0); exact rfl) | ((with_reducible apply at1); exact rfl) | ((with_reducible apply at2); exact rfl) | with_reducible assumption))
  | ((with_reducible refine' st_ixP ?h1 ?h2 ?h3 ?h4 ?_); (case h1 => kpt_turns); (case h2 => (repeat constructor)); (case h3 => omega); (case h4 => (simp; omega)))
  | ((with_reducible refine' st_ixPT ?h1 ?h2 ?h3 ?h4 ?_); (case h1 => kpt_turns); (case h2 => (repeat constructor)); (case h3 => omega); (case h4 => (simp; omega)))
  | with_reducible refine st_tB ?_
  | with_reducible refine st_test ?_
  | with_reducible refine st_and ?_
  | with_reducible refine st_or ?_
  | with_reducible refine st_not ?_
  | with_reducible refine st_andV ?_
  | with_reducible refine st_orV ?_
  | with_reducible refine st_notV ?_
  | with_reducible refine st_chain ?_
  | with_reducible refine st_iT ?_
  | with_reducible refine st_iF ?_
  | with_reducible refine st_iNT ?_
  | with_reducible refine st_iNF ?_
  | with_reducible refine st_iRf ?_
  | with_reducible refine st_iNRf ?_
  | with_reducible refine st_asg ?_
  | ((with_reducible refine' st_parF ?e ?_); (case e => intro x y; (simp only [List.set_cons_zero, List.set_cons_succ]; exact rfl)))
  | with_reducible refine st_par2 ?_
  | with_reducible refine st_fst ?_
  | with_reducible refine st_jsE ?_
  | with_reducible refine st_js ?_
  | with_reducible refine st_fmt ?_
  | with_reducible refine st_joinK ?_
  | with_reducible refine st_strx ?_
  | ((with_reducible refine' st_par3F ?e ?_); (case e => intro x y z; (simp only [List.set_cons_zero, List.set_cons_succ]; exact rfl)))
  | with_reducible refine st_par3 ?_
  | ((with_reducible refine' st_augF ?h ?e ?_); (case h => exact rfl); (case e => intro x; (simp only [List.set_cons_zero, List.set_cons_succ]; exact rfl)))
  | with_reducible refine st_ipI ?_
  | with_reducible refine st_drop ?_
  | with_reducible refine st_next ?_
  | with_reducible refine st_un ?_
  | with_reducible refine st_U ?_
  | ((with_reducible refine' st_gNF ?e ?_); (case e => (simp only [List.set_cons_zero, List.set_cons_succ]; exact rfl)))
  | with_reducible refine st_gN ?_
  | ((with_reducible refine' st_gT ?h1 ?h2 ?_); (case h1 => kpt_turns); (case h2 => exact rfl))
  | with_reducible refine st_gC ?_
  | with_reducible refine st_gE ?_
  | with_reducible refine st_gS ?_
  | ((with_reducible refine' st_setL ?h1 ?h2 ?_); (case h1 => lcg_off); (case h2 => exact rfl))
  | with_reducible refine st_lst ?_
  | with_reducible refine st_tup ?_
  | ((with_reducible refine st_new ?h ?_); (case h => (simp; done)))
  | with_reducible refine st_callN ?_
  | with_reducible refine st_bm ?_
  | with_reducible refine st_bm0 ?_
  | ((with_reducible refine' st_tyL ?h ?_); (case h => kpt_turns))
  | ((with_reducible refine st_eq ?h ?_); (case h => exact rfl))
  | ((with_reducible refine st_ne ?h ?_); (case h => exact rfl))
  | with_reducible refine st_i1 ?_
  | with_reducible refine st_i2 ?_
  | with_reducible refine st_int ?_
  | with_reducible refine st_intb ?_
  | ((with_reducible refine' st_lenQ ?h ?_); (case h => kpt_turns))
  | ((with_reducible refine' st_lenQT ?h ?_); (case h => kpt_turns))
  | with_reducible refine st_yes ?_
  | with_reducible refine st_brk ?_
  | with_reducible refine st_cont ?_
  | with_reducible refine st_retN ?_
  | with_reducible refine st_forI ?_
  | with_reducible refine st_lcI ?_
  | with_reducible refine st_itL ?_
  | with_reducible refine st_itT ?_
  | with_reducible refine st_rng1 ?_
  | with_reducible refine st_rng2 ?_
  | with_reducible refine st_ref ?_
  | with_reducible refine st_sl ?_
  | with_reducible refine st_pN ?_
  | with_reducible refine st_pS ?_
  | with_reducible refine st_pI ?_
  | (refine ⟨rfl, ?_⟩)
  | with_reducible refine st_ifE ?_
  | with_reducible refine st_ifS ?_)
local macro_rules | `(tactic| kpf_close) => `(tactic| first
  | cell_call
  | refine st_iD (fun _ => ?_) (fun _ => ?_)
  | refine st_iND (fun _ => ?_) (fun _ => ?_)
  | refine st_iNB (fun _ => ?_) (fun _ => ?_)
  | refine st_iB (fun _ => ?_) (fun _ => ?_))
local macro_rules | `(tactic| k_places) => `(tactic| first
  | with_reducible refine isi_non_bool ?_
  | with_reducible refine isi_non_int ?_
  | with_reducible refine isi_non_str ?_
  | with_reducible refine isi_non_list ?_
  | with_reducible refine isi_non_tuple ?_
  | with_reducible refine isi_bl_bool ?_
  | with_reducible refine isi_bl_int ?_
  | with_reducible refine isi_bl_str ?_
  | with_reducible refine isi_bl_list ?_
  | with_reducible refine isi_bl_tuple ?_
  | with_reducible refine isi_int_bool ?_
  | with_reducible refine isi_int_int ?_
  | with_reducible refine isi_int_str ?_
  | with_reducible refine isi_int_list ?_
  | with_reducible refine isi_int_tuple ?_
  | with_reducible refine isi_str_bool ?_
  | with_reducible refine isi_str_int ?_
  | with_reducible refine isi_str_str ?_
  | with_reducible refine isi_str_list ?_
  | with_reducible refine isi_str_tuple ?_
  | ((with_reducible refine' isi_list_bool ?h ?_); (case h => kpt_turns))
  | ((with_reducible refine' isi_list_int ?h ?_); (case h => kpt_turns))
  | ((with_reducible refine' isi_list_str ?h ?_); (case h => kpt_turns))
  | ((with_reducible refine' isi_list_list ?h ?_); (case h => kpt_turns))
  | ((with_reducible refine' isi_list_tuple ?h ?_); (case h => kpt_turns))
  | ((with_reducible refine' isi_tuple_bool ?h ?_); (case h => kpt_turns))
  | ((with_reducible refine' isi_tuple_int ?h ?_); (case h => kpt_turns))
  | ((with_reducible refine' isi_tuple_str ?h ?_); (case h => kpt_turns))
  | ((with_reducible refine' isi_tuple_list ?h ?_); (case h => kpt_turns))
  | ((with_reducible refine' isi_tuple_tuple ?h ?_); (case h => kpt_turns)))
section
variable {P : Program} {w : World} {K : PySem.W.Frag} {mg : Str → Option Value} {base : Heap}
def sp_check_times (K : PySem.W.Frag) : Sp := fun vs H Q _ => ∃ n : Int, vs = [.int n] ∧ 0 ≤ n ∧ Q .non H
theorem ok_check_times (T : Txt K mg) : FnOk P w K mg base CX0 1 (He.ga K "check_times") T.fd_check_times ["times"] (sp_check_times K) := by
  refine T.F_check_times.ok sc_check_times (fun vs H Q E h => ?_) (fun cdv A outer s H vs Q E hr h => ?_)
  · obtain ⟨n, rfl, _⟩ := h
    rfl
  · obtain ⟨n, rfl, hn, q⟩ := h
    refine ⟨_, PSs.nox (pss_one (ps_if (pt_cmpR op_lt (pv 0) pe_int (nomark _)) (pss_one ps_never) pss_nil)), ?_⟩
    rw [start_check_times]
    repeat cell_call
    refine st_iDF (by omega) ?_
    repeat cell_call
    exact q

def sp_anchored (K : PySem.W.Frag) : Sp := fun vs H Q _ => ∃ (D : Addr) (s : Dt) (k t : Int), vs = [.ref D, .int k, .int t] ∧ SqT K H D (dT s) ∧ okS s ∧ 0 ≤ t ∧ Big k ∧ Big t ∧
  ∀ p, H p = none → Q (.ref p) (upd H p (.tup (dT (anN s k t))))
theorem ok_anchored (T : Txt K mg) : FnOk P w K mg base CX0 5 (He.ga K "anchored") T.fd_anchored ["date", "step", "times"] (sp_anchored K) := by
  refine T.F_anchored.ok sc_anchored (fun vs H Q E h => ?_) (fun cdv A outer s H vs Q E hr h => ?_)
  · obtain ⟨D, s, k, t, rfl, _⟩ := h
    rfl
  · obtain ⟨D, s, k, t, rfl, hD, ho, ht, bs, bt, q⟩ := h
    refine ⟨_, PSs.nox (pss_cons (ps_expr (pe_call (ok_check_date T) (hr.mono (by decide)) rfl T.g_check_date T.F_check_date.kp (b_check_date T) .nil pass0 (pa_cons (pv 0) pa_nil)))
      (pss_cons (ps_expr (pe_call (ok_check_times T) (hr.mono (by decide)) rfl T.g_check_times T.F_check_times.kp (b_check_times T) .nil pass0 (pa_cons (pv 2) pa_nil)))
      (pss_cons (ps_set (i := 3) sc_anchored.nd rfl (Or.inl rfl) (pe_op op_add (pe_call (ok_month_number T) (hr.mono (by decide)) rfl T.g_month_number T.F_month_number.kp (b_month_number T) .nil pass0 (pa_cons (pv 0) pa_nil)) (pe_op op_mulW (pv 1) (pv 2))))
      (pss_one (ps_ret (pe_call (ok_date_in T) (hr.mono (by decide)) rfl T.g_date_in T.F_date_in.kp (b_date_in T) .nil pass0 (pa_cons (pv 3) (pa_cons (pe_callB (call_minI rfl) (by rfl) T.b_min (by decide +kernel) (pa_cons (pe_ix (show IxR _ (rIxT K) from ix_tup) (pv 0) pe_int (fun _ _ => rfl)) (pa_cons (pe_call (ok_length_of T) (hr.mono (by decide)) rfl T.g_length_of T.F_length_of.kp (b_length_of T) .nil pass0 (pa_cons (pv 3) pa_nil)) pa_nil))) pa_nil)))))))), ?_⟩
    rw [start_anchored]
    repeat cell_call
    refine ⟨D, _, _, _, rfl, hD, okS_ok ho, ?_⟩
    repeat cell_call
    refine ⟨t, rfl, ht, ?_⟩
    repeat cell_call
    refine ⟨D, _, _, _, rfl, hD, ?_⟩
    rw [num_eq]
    unfold dT at hD
    repeat cell_call
    refine st_I (wide_mul bs bt (by decide) (by decide) (by decide)) ?_
    repeat cell_call
    refine ⟨_, rfl, ?_⟩
    repeat cell_call
    exact ⟨_, _, rfl, q⟩

def sp_renew (K : PySem.W.Frag) : Sp := fun vs H Q _ => ∃ (D : Addr) (s : Dt) (k t : Int), vs = [.ref D, .int k, .int t] ∧ SqT K H D (dT s) ∧ okS s ∧ 0 ≤ t ∧ Big k ∧ Big t ∧
  ∀ p H', Same H H' → H p = none → H' p = some (.tup (dT (rnN s k t))) → Q (.ref p) H'
theorem ok_renew (T : Txt K mg) : FnOk P w K mg base CX0 5 (He.ga K "renew") T.fd_renew ["date", "step", "times"] (sp_renew K) := by
  refine T.F_renew.ok sc_renew (fun vs H Q E h => ?_) (fun cdv A outer s H vs Q E hr h => ?_)
  · obtain ⟨D, s, k, t, rfl, _⟩ := h
    rfl
  · obtain ⟨D, s, k, t, rfl, hD, ho, ht, bs, bt, q⟩ := h
    refine ⟨_, PSs.nox (pss_cons (ps_expr (pe_call (ok_check_date T) (hr.mono (by decide)) rfl T.g_check_date T.F_check_date.kp (b_check_date T) .nil pass0 (pa_cons (pv 0) pa_nil)))
      (pss_cons (ps_expr (pe_call (ok_check_times T) (hr.mono (by decide)) rfl T.g_check_times T.F_check_times.kp (b_check_times T) .nil pass0 (pa_cons (pv 2) pa_nil)))
      (pss_cons (ps_set (i := 3) sc_renew.nd rfl (Or.inr rfl) (pe_call (ok_month_number T) (hr.mono (by decide)) rfl T.g_month_number T.F_month_number.kp (b_month_number T) .nil pass0 (pa_cons (pv 0) pa_nil)))
      (pss_cons (ps_setLc (i := 4) (own := [("turn", 5)]) (g := gName 5) (tt := tYes) rfl sc_renew.nd rfl rfl (sw_true rfl rfl rfl (by decide +kernel)) (pi_range1 (by rfl) T.b_range (pa_cons (pe_op op_add (pe_callB (call_minI rfl) (by rfl) T.b_min (by decide +kernel) (pa_cons (pv 2) (pa_cons (pe_glob (v := .int (4800)) rfl T.c_CYCLE.2 ⟨_, rfl⟩) pa_nil))) pe_int) pa_nil)) (blkOk_by (N := N_renew) (sc := defScope s_renew) (by decide +kernel)) (fun _ _ _ _ _ => (pg_name (i := 5) sc_renew.nd rfl (Or.inl rfl))) (fun _ _ _ _ _ => pts_nil) (fun _ _ _ _ _ => (pe_call (ok_length_of T) (hr.mono (by decide)) rfl T.g_length_of T.F_length_of.kp (b_length_of T) .nil pass0 (pa_cons (pe_op op_add (pv 3) (pe_op op_mulW (pv 1) (pv 5))) pa_nil))))
      (pss_one (ps_ret (pe_call (ok_date_in T) (hr.mono (by decide)) rfl T.g_date_in T.F_date_in.kp (b_date_in T) .nil pass0 (pa_cons (pe_op op_add (pv 3) (pe_op op_mulW (pv 1) (pv 2))) (pa_cons (pe_callB (show CallR _ _ (rMin K) from (cr_min rfl)) (by rfl) T.b_min (by decide +kernel) (pa_cons (pe_op op_cat (pe_lst (pa_cons (pe_ix (show IxR _ (rIxT K) from ix_tup) (pv 0) pe_int (fun _ _ => rfl)) pa_nil)) (pv 4)) pa_nil)) pa_nil))))))))), ?_⟩
    rw [start_renew]
    repeat cell_call
    refine ⟨D, _, _, _, rfl, hD, okS_ok ho, ?_⟩
    repeat cell_call
    refine ⟨t, rfl, ht, ?_⟩
    repeat cell_call
    refine ⟨D, _, _, _, rfl, hD, ?_⟩
    rw [num_eq]
    unfold dT at hD
    repeat cell_call
    refine ⟨by omega, by omega, fun L nL => ?_⟩
    refine lc_range (lo := 0) (n := (min t 4800 + 1).toNat) (fun i H' => H' = upd H L (.lst ((rnL s.1 k i).map V.int))) rfl (fun i H' hi e => ?_) (fun H' e => ?_)
    · subst e
      repeat cell_call
      refine st_I (wide_mul bs (b := 64) (by omega) (by decide) (by decide) (by decide)) ?_
      repeat cell_call
      refine ⟨_, rfl, _, upd_same, len_lt (by simp [rnL_len]; omega), ?_⟩
      rw [upd_upd, rnL_succ, List.map_append]
      simp
    · subst e
      have sL : Same H (upd H L (.lst ((rnL s.1 k (min t 4800 + 1).toNat).map V.int))) := Same.new nL
      repeat cell_call
      refine st_I (wide_mul bs bt (by decide) (by decide) (by decide)) ?_
      repeat cell_call
      intro p np
      repeat cell_call
      refine st_cat upd_same (by lcg_off) (by simp [rnL_len]; omega) fun c nc => ?_
      repeat cell_call
      refine ⟨c, s.2 :: rnL s.1 k (min t 4800 + 1).toNat, rfl, SqL.of upd_same, by simp, fun x hx hm => ?_⟩
      repeat cell_call
      refine ⟨_, _, rfl, fun u nu => ?_⟩
      have s3 := sL.trans ((Same.new (o := .lst [V.int s.2]) np).trans (Same.new (o := .lst ([V.int s.2] ++ (rnL s.1 k (min t 4800 + 1).toNat).map V.int)) nc))
      refine q _ _ (s3.trans (Same.new nu)) (s3.free nu) ?_
      · rw [upd_same, min_eq hx hm, show (min t 4800 + 1).toNat = (min t 4800).toNat + 1 by omega]
        rfl

end
end Mc
namespace Mc
open PySem PySem.Spec PyProof.Rows L2
local macro_rules | `(tactic| lcg_src) => `(tactic| first
  | with_reducible assumption
  | ((with_reducible apply Ne.symm); with_reducible assumption)
  | ((with_reducible apply ne_nf); (with_reducible assumption); lcg_off)
  | ((with_reducible apply Ne.symm); (with_reducible apply ne_nf); (with_reducible assumption); lcg_off))
local macro_rules | `(tactic| lcg_off) => `(tactic| first
  | with_reducible assumption
  | (with_reducible exact upd_same)
  | ((with_reducible apply hp_ne); lcg_src; lcg_off)
  | ((with_reducible apply hp_same); (with_reducible assumption); lcg_off)
  | ((with_reducible apply hp_frm); (with_reducible assumption); lcg_src; lcg_off)
  | ((with_reducible apply hp_frm2); (with_reducible assumption); lcg_src; lcg_src; lcg_off)
  | assumption)
local macro_rules | `(tactic| kpt_turns) => `(tactic| first
  | with_reducible assumption
  | ((with_reducible apply SqL.of); lcg_off)
  | ((with_reducible apply SqT.of); lcg_off)
  | ((with_reducible apply Frm.seq); (with_reducible assumption); lcg_src; kpt_turns)
  | ((with_reducible apply Frm.tup); (with_reducible assumption); lcg_src; kpt_turns)
  | ((with_reducible apply Frm2.seq); (with_reducible assumption); lcg_src; lcg_src; kpt_turns)
  | ((with_reducible apply Frm2.tup); (with_reducible assumption); lcg_src; lcg_src; kpt_turns)
  | ((with_reducible apply L2.Same.seq); (with_reducible assumption); kpt_turns)
  | ((with_reducible apply Same.tup); (with_reducible assumption); kpt_turns)
  | assumption)
local macro_rules | `(tactic| k_memK) => `(tactic| first
  | with_reducible exact Frm.refl _
  | with_reducible assumption
  | ((with_reducible apply Frm.trN); (with_reducible assumption); k_memK)
  | ((with_reducible apply Frm.trU); k_memK)
  | ((with_reducible apply Frm.trM); (with_reducible assumption); k_memK)
  | ((with_reducible apply Frm.tr); (with_reducible assumption); k_memK)
  | ((with_reducible apply Frm.trS); (with_reducible assumption); k_memK)
  | with_reducible exact Frm2.refl _
  | ((with_reducible apply Frm2.trN); (with_reducible assumption); k_memK)
  | ((with_reducible apply Frm2.trU); k_memK)
  | ((with_reducible apply Frm2.trV); k_memK)
  | ((with_reducible apply Frm2.trM); (with_reducible assumption); k_memK)
  | ((with_reducible apply Frm2.tr); (with_reducible assumption); k_memK)
  | ((with_reducible apply Frm2.trS); (with_reducible assumption); k_memK))
local macro_rules | `(tactic| k_allIn) => `(tactic| first
  | with_reducible exact L2.Same.refl _
  | with_reducible assumption
  | ((with_reducible apply same_trN); (with_reducible assumption); k_allIn)
  | ((with_reducible apply same_trU); (with_reducible assumption); k_allIn)
  | ((with_reducible apply same_tr); (with_reducible assumption); k_allIn))
local macro_rules | `(tactic| k_ownIn) => `(tactic| first
  | with_reducible refine st_seq ?_
  | ((with_reducible refine' st_setF ?e ?_); (case e => intro x; (simp only [List.set_cons_zero, List.set_cons_succ]; exact rfl)))
  | with_reducible refine st_c ?_
  | ((with_reducible refine' st_var ?h ?_); (case h => exact rfl))
  | with_reducible refine st_op ?_
  | with_reducible refine st_I0 ?_
  | ((with_reducible refine' st_powL ?c ?e ?_); (case c => exact ⟨by decide, by decide, by decide⟩); (case e => (simp only [Int.reduceToNat, Int.reducePow]; exact rfl)))
  | ((with_reducible refine st_I ?h ?_); (case h => first | with_reducible assumption | (show (0 : Int) < _; omega) | exact ⟨by omega, by omega⟩ | exact .inl ⟨by omega, by omega⟩ | exact .inr ⟨by omega, by omega⟩ | exact ⟨by omega, by omega, by omega⟩))
  | with_reducible refine st_nil ?_
  | with_reducible refine st_cons ?_
  | with_reducible refine st_ret ?_
  | with_reducible refine st_call ?_
  | with_reducible refine st_cb ?_
  | with_reducible refine st_exb ?_
  | ((with_reducible refine' st_ixL ?h1 ?h2 ?_); (case h1 => kpt_turns); (case h2 => first | ((with_reducible apply at0); exact rfl) | ((with_reducible apply at1); exact rfl) | ((with_reducible apply at2); exact rfl) | ((with_reducible apply at3); exact rfl) | with_reducible assumption))
  | ((with_reducible refine' st_ixT ?h1 ?h2 ?_); (case h1 => kpt_turns); (case h2 => first | ((with_reducible apply at0); exact rfl) | ((with_reducible apply at1); exact rfl) | ((with_reducible apply at2); exact rfl) | with_reducible assumption))
  | ((with_reducible refine' st_ixP ?h1 ?h2 ?h3 ?h4 ?_); (case h1 => kpt_turns); (case h2 => (repeat constructor)); (case h3 => omega); (case h4 => (simp; omega)))
  | ((with_reducible refine' st_ixPT ?h1 ?h2 ?h3 ?h4 ?_); (case h1 => kpt_turns); (case h2 => (repeat constructor)); (case h3 => omega); (case h4 => (simp; omega)))
  | with_reducible refine st_tB ?_
  | with_reducible refine st_test ?_
  | with_reducible refine st_and ?_
  | with_reducible refine st_or ?_
  | with_reducible refine st_not ?_
  | with_reducible refine st_andV ?_
  | with_reducible refine st_orV ?_
  | with_reducible refine st_notV ?_
  | with_reducible refine st_chain ?_
  | with_reducible refine st_iT ?_
  | with_reducible refine st_iF ?_
  | with_reducible refine st_iNT ?_
  | with_reducible refine st_iNF ?_
  | with_reducible refine st_iRf ?_
  | with_reducible refine st_iNRf ?_
  | with_reducible refine st_asg ?_
  | ((with_reducible refine' st_parF ?e ?_); (case e => intro x y; (simp only [List.set_cons_zero, List.set_cons_succ]; exact rfl)))
  | with_reducible refine st_par2 ?_
  | with_reducible refine st_fst ?_
  | with_reducible refine st_jsE ?_
  | with_reducible refine st_js ?_
  | with_reducible refine st_fmt ?_
  | with_reducible refine st_joinK ?_
  | with_reducible refine st_strx ?_
  | ((with_reducible refine' st_par3F ?e ?_); (case e => intro x y z; (simp only [List.set_cons_zero, List.set_cons_succ]; exact rfl)))
  | with_reducible refine st_par3 ?_
  | ((with_reducible refine' st_augF ?h ?e ?_); (case h => exact rfl); (case e => intro x; (simp only [List.set_cons_zero, List.set_cons_succ]; exact rfl)))
  | with_reducible refine st_ipI ?_
  | with_reducible refine st_drop ?_
  | with_reducible refine st_next ?_
  | with_reducible refine st_un ?_
  | with_reducible refine st_U ?_
  | ((with_reducible refine' st_gNF ?e ?_); (case e => (simp only [List.set_cons_zero, List.set_cons_succ]; exact rfl)))
  | with_reducible refine st_gN ?_
  | ((with_reducible refine' st_gT ?h1 ?h2 ?_); (case h1 => kpt_turns); (case h2 => exact rfl))
  | with_reducible refine st_gC ?_
  | with_reducible refine st_gE ?_
  | with_reducible refine st_gS ?_
  | ((with_reducible refine' st_setL ?h1 ?h2 ?_); (case h1 => lcg_off); (case h2 => exact rfl))
  | with_reducible refine st_lst ?_
  | with_reducible refine st_tup ?_
  | ((with_reducible refine st_new ?h ?_); (case h => (simp; done)))
  | with_reducible refine st_callN ?_
  | with_reducible refine st_bm ?_
  | with_reducible refine st_bm0 ?_
  | ((with_reducible refine' st_tyL ?h ?_); (case h => kpt_turns))
  | ((with_reducible refine st_eq ?h ?_); (case h => exact rfl))
  | ((with_reducible refine st_ne ?h ?_); (case h => exact rfl))
  | with_reducible refine st_i1 ?_
  | with_reducible refine st_i2 ?_
  | with_reducible refine st_int ?_
  | with_reducible refine st_intb ?_
  | ((with_reducible refine' st_lenQ ?h ?_); (case h => kpt_turns))
  | ((with_reducible refine' st_lenQT ?h ?_); (case h => kpt_turns))
  | with_reducible refine st_yes ?_
  | with_reducible refine st_brk ?_
  | with_reducible refine st_cont ?_
  | with_reducible refine st_retN ?_
  | with_reducible refine st_forI ?_
  | with_reducible refine st_lcI ?_
  | with_reducible refine st_itL ?_
  | with_reducible refine st_itT ?_
  | with_reducible refine st_rng1 ?_
  | with_reducible refine st_rng2 ?_
  | with_reducible refine st_ref ?_
  | with_reducible refine st_sl ?_
  | with_reducible refine st_pN ?_
  | with_reducible refine st_pS ?_
  | with_reducible refine st_pI ?_
  | (refine ⟨rfl, ?_⟩))
local macro_rules | `(tactic| cell_call) => `(tactic| first
  | with_reducible refine st_seq ?_
  | ((with_reducible refine' st_setF ?e ?_); (case e => intro x; (simp only [List.set_cons_zero, List.set_cons_succ]; exact rfl)))
  | with_reducible refine st_c ?_
  | ((with_reducible refine' st_var ?h ?_); (case h => exact rfl))
  | with_reducible refine st_op ?_
  | with_reducible refine st_I0 ?_
  | ((with_reducible refine' st_powL ?c ?e ?_); (case c => exact ⟨by decide, by decide, by decide⟩); (case e => (simp only [Int.reduceToNat, Int.reducePow]; exact rfl)))
  | ((with_reducible refine st_I ?h ?_); (case h => first | with_reducible assumption | (show (0 : Int) < _; omega) | exact ⟨by omega, by omega⟩ | exact .inl ⟨by omega, by omega⟩ | exact .inr ⟨by omega, by omega⟩ | exact ⟨by omega, by omega, by omega⟩))
  | with_reducible refine st_nil ?_
  | with_reducible refine st_cons ?_
  | with_reducible refine st_ret ?_
  | with_reducible refine st_call ?_
  | with_reducible refine st_cb ?_
  | with_reducible refine st_exb ?_
  | ((with_reducible refine' st_ixL ?h1 ?h2 ?_); (case h1 => kpt_turns); (case h2 => first | ((with_reducible apply at0); exact rfl) | ((with_reducible apply at1); exact rfl) | ((with_reducible apply at2); exact rfl) | ((with_reducible apply at3); exact rfl) | with_reducible assumption))
  | ((with_reducible refine' st_ixT ?h1 ?h2 ?_); (case h1 => kpt_turns); (case h2 => first | ((with_reducible apply at0); exact rfl) | ((with_reducible apply at1); exact rfl) | ((with_reducible apply at2); exact rfl) | with_reducible assumption))
  | ((with_reducible refine' st_ixP ?h1 ?h2 ?h3 ?h4 ?_); (case h1 => kpt_turns); (case h2 => (repeat constructor)); (case h3 => omega); (case h4 => (simp; omega)))
  | ((with_reducible refine' st_ixPT ?h1 ?h2 ?h3 ?h4 ?_); (case h1 => kpt_turns); (case h2 => (repeat constructor)); (case h3 => omega); (case h4 => (simp; omega)))
  | with_reducible refine st_tB ?_
  | with_reducible refine st_test ?_
  | with_reducible refine st_and ?_
  | with_reducible refine st_or ?_
  | with_reducible refine st_not ?_
  | with_reducible refine st_andV ?_
  | with_reducible refine st_orV ?_
  | with_reducible refine st_notV ?_
  | with_reducible refine st_chain ?_
  | with_reducible refine st_iT ?_
  | with_reducible refine st_iF ?_
  | with_reducible refine st_iNT ?_
  | with_reducible refine st_iNF ?_
  | with_reducible refine st_iRf ?_
  | with_reducible refine st_iNRf ?_
  | with_reducible refine st_asg ?_
  | ((with_reducible refine' st_parF ?e ?_); (case e => intro x y; (simp only [List.set_cons_zero, List.set_cons_succ]; exact rfl)))
  | with_reducible refine st_par2 ?_
  | with_reducible refine st_fst ?_
  | with_reducible refine st_jsE ?_
  | with_reducible refine st_js ?_
  | with_reducible refine st_fmt ?_
  | with_reducible refine st_joinK ?_
  | with_reducible refine st_strx ?_
  | ((with_reducible refine' st_par3F ?e ?_); (case e => intro x y z; (simp only [List.set_cons_zero, List.set_cons_succ]; exact rfl)))
  | with_reducible refine st_par3 ?_
  | ((with_reducible refine' st_augF ?h ?e ?_); (case h => exact rfl); (case e => intro x; (simp only [List.set_cons_zero, List.set_cons_succ]; exact rfl)))
  | with_reducible refine st_ipI ?_
  | with_reducible refine st_drop ?_
  | with_reducible refine st_next ?_
  | with_reducible refine st_un ?_
  | with_reducible refine st_U ?_
  | ((with_reducible refine' st_gNF ?e ?_); (case e => (simp only [List.set_cons_zero, List.set_cons_succ]; exact rfl)))
  | with_reducible refine st_gN ?_
  | ((with_reducible refine' st_gT ?h1 ?h2 ?_); (case h1 => kpt_turns); (case h2 => exact rfl))
  | with_reducible refine st_gC ?_
  | with_reducible refine st_gE ?_
  | with_reducible refine st_gS ?_
  | ((with_reducible refine' st_setL ?h1 ?h2 ?_); (case h1 => lcg_off); (case h2 => exact rfl))
  | with_reducible refine st_lst ?_
  | with_reducible refine st_tup ?_
  | ((with_reducible refine st_new ?h ?_); (case h => (simp; done)))
  | with_reducible refine st_callN ?_
  | with_reducible refine st_bm ?_
  | with_reducible refine st_bm0 ?_
  | ((with_reducible refine' st_tyL ?h ?_); (case h => kpt_turns))
  | ((with_reducible refine st_eq ?h ?_); (case h => exact rfl))
  | ((with_reducible refine st_ne ?h ?_); (case h => exact rfl))
  | with_reducible refine st_i1 ?_
  | with_reducible refine st_i2 ?_
  | with_reducible refine st_int ?_
  | with_reducible refine st_intb ?_
  | ((with_reducible refine' st_lenQ ?h ?_); (case h => kpt_turns))
  | ((with_reducible refine' st_lenQT ?h ?_); (case h => kpt_turns))
  | with_reducible refine st_yes ?_
  | with_reducible refine st_brk ?_
  | with_reducible refine st_cont ?_
  | with_reducible refine st_retN ?_
  | with_reducible refine st_forI ?_
  | with_reducible refine st_lcI ?_
  | with_reducible refine st_itL ?_
  | with_reducible refine st_itT ?_
  | with_reducible refine st_rng1 ?_
  | with_reducible refine st_rng2 ?_
  | with_reducible refine st_ref ?_
  | with_reducible refine st_sl ?_
  | with_reducible refine st_pN ?_
  | with_reducible refine st_pS ?_
  | with_reducible refine st_pI ?_
  | (refine ⟨rfl, ?_⟩)
  | with_reducible refine st_ifE ?_
  | with_reducible refine st_ifS ?_)
local macro_rules | `(tactic| kpf_close) => `(tactic| first
  | cell_call
  | refine st_iD (fun _ => ?_) (fun _ => ?_)
  | refine st_iND (fun _ => ?_) (fun _ => ?_)
  | refine st_iNB (fun _ => ?_) (fun _ => ?_)
  | refine st_iB (fun _ => ?_) (fun _ => ?_))
local macro_rules | `(tactic| k_places) => `(tactic| first
  | with_reducible refine isi_non_bool ?_
  | with_reducible refine isi_non_int ?_
  | with_reducible refine isi_non_str ?_
  | with_reducible refine isi_non_list ?_
  | with_reducible refine isi_non_tuple ?_
  | with_reducible refine isi_bl_bool ?_
  | with_reducible refine isi_bl_int ?_
  | with_reducible refine isi_bl_str ?_
  | with_reducible refine isi_bl_list ?_
  | with_reducible refine isi_bl_tuple ?_
  | with_reducible refine isi_int_bool ?_
  | with_reducible refine isi_int_int ?_
  | with_reducible refine isi_int_str ?_
  | with_reducible refine isi_int_list ?_
  | with_reducible refine isi_int_tuple ?_
  | with_reducible refine isi_str_bool ?_
  | with_reducible refine isi_str_int ?_
  | with_reducible refine isi_str_str ?_
  | with_reducible refine isi_str_list ?_
  | with_reducible refine isi_str_tuple ?_
  | ((with_reducible refine' isi_list_bool ?h ?_); (case h => kpt_turns))
  | ((with_reducible refine' isi_list_int ?h ?_); (case h => kpt_turns))
  | ((with_reducible refine' isi_list_str ?h ?_); (case h => kpt_turns))
  | ((with_reducible refine' isi_list_list ?h ?_); (case h => kpt_turns))
  | ((with_reducible refine' isi_list_tuple ?h ?_); (case h => kpt_turns))
  | ((with_reducible refine' isi_tuple_bool ?h ?_); (case h => kpt_turns))
  | ((with_reducible refine' isi_tuple_int ?h ?_); (case h => kpt_turns))
  | ((with_reducible refine' isi_tuple_str ?h ?_); (case h => kpt_turns))
  | ((with_reducible refine' isi_tuple_list ?h ?_); (case h => kpt_turns))
  | ((with_reducible refine' isi_tuple_tuple ?h ?_); (case h => kpt_turns)))
section
variable {P : Program} {w : World} {K : PySem.W.Frag} {mg : Str → Option Value} {base : Heap}
/-- a source of draws at S: its numbers are bounded; c: how often it has mixed at most -/
def PoolAt (H : Hp) (S : Addr) (c : Int) : Prop := ∃ a b n : Int, H S = some (.lst [.int a, .int b, .int n]) ∧ 0 ≤ b ∧ b ≤ 9223372036854775808 ∧ 0 ≤ n ∧ n ≤ c
theorem PoolAt.mono {H : Hp} {S : Addr} {c c' : Int} (h : PoolAt H S c) (l : c ≤ c') : PoolAt H S c' := by
  obtain ⟨a, b, n, h1, h2, h3, h4, h5⟩ := h
  exact ⟨a, b, n, h1, h2, h3, h4, by omega⟩
theorem PoolAt.ne {H : Hp} {S p : Addr} {c : Int} (h : PoolAt H S c) (n : H p = none) : p ≠ S := by
  obtain ⟨a, b, n', h1, _⟩ := h
  exact Ne.symm (ne_of_none h1 n)
theorem PoolAt.same {H H' : Hp} {S : Addr} {c : Int} (h : PoolAt H S c) (e : Same H H') : PoolAt H' S c := by
  obtain ⟨a, b, n', h1, h2⟩ := h
  exact ⟨a, b, n', e _ _ h1, h2⟩
theorem PoolAt.new {H : Hp} {S p : Addr} {o : HO} {c : Int} (h : PoolAt H S c) (n : H p = none) : PoolAt (upd H p o) S c := h.same (Same.new n)
def sp_law_pool (K : PySem.W.Frag) : Sp := fun vs H Q _ => ∃ (A : Addr) (ns : List Int) (k : Int), vs = [.ref A, .int k] ∧ SqL K H A (ns.map V.int) ∧ 0 ≤ k ∧ k ≤ 100 ∧
  ∀ p H', H p = none → Same H H' → PoolAt H' p 0 → Q (.ref p) H'
theorem ok_law_pool (T : Txt K mg) : FnOk P w K mg base CX0 1 (He.ga K "_law_pool") T.fd_law_pool ["script", "at"] (sp_law_pool K) := by
  refine T.F_law_pool.ok sc_law_pool (fun vs H Q E h => ?_) (fun cdv A outer s H vs Q E hr h => ?_)
  · obtain ⟨A, ns, k, rfl, _⟩ := h
    rfl
  · obtain ⟨A, ns, k, rfl, hA, h0, h1, q⟩ := h
    refine ⟨_, PSs.nox (pss_cons (ps_set (i := 2) sc_law_pool.nd rfl (Or.inl rfl) pe_int)
      (pss_cons (ps_if (pt_cmpR op_lt (pv 1) (pe_callB (show CallR _ _ (rLenQ K) from call_lenQ) (by rfl) T.b_len PySem.boot_len (pa_cons (pv 0) pa_nil)) (nomark _)) (pss_one (ps_set (i := 2) sc_law_pool.nd rfl (Or.inl rfl) (pe_ix (show IxR _ (rIxL K) from ix_list) (pv 0) (pv 1) (fun _ _ => rfl)))) pss_nil)
      (pss_one (ps_ret (pe_lst (pa_cons (pe_callB (call_maxI rfl) (by rfl) T.b_max (by decide +kernel) (pa_cons pe_int (pa_cons (pe_op op_sub (pe_callB call_absI (by rfl) T.b_abs (by decide +kernel) (pa_cons (pv 2) pa_nil)) (pe_op op_pow pe_int pe_int)) pa_nil))) (pa_cons (pe_op op_add (pe_op op_mod (pv 2) pe_int) (pe_op op_mul pe_int (pe_op op_add (pv 1) pe_int))) (pa_cons pe_int pa_nil)))))))), ?_⟩
    rw [start_law_pool]
    repeat cell_call
    refine st_iD (fun hl => ?_) (fun hl => ?_)
    · repeat cell_call
      obtain ⟨z, hz, ha⟩ := at_int (ns := ns) h0 (by rw [List.length_map] at hl; exact hl)
      refine st_ixL hA ha ?_
      repeat cell_call
      intro p np
      exact q p _ np (Same.new np) ⟨_, _, _, upd_same, by omega, by omega, by omega, by omega⟩
    · repeat cell_call
      intro p np
      exact q p _ np (Same.new np) ⟨_, _, _, upd_same, by omega, by omega, by omega, by omega⟩

def sp_law_draw (K : PySem.W.Frag) : Sp := fun vs H Q _ => ∃ (S : Addr) (m c : Int), vs = [.ref S, .int m] ∧ PoolAt H S c ∧ c ≤ 1000000000000 ∧ 0 < m ∧ m ≤ 10000000000000000000000000000000000000000 ∧
  ∀ r H', 0 ≤ r → r < m → PoolAt H' S (c + 1) → Frm S H H' → Q (.int r) H'
theorem ok_law_draw (T : Txt K mg) : FnOk P w K mg base CX0 1 (He.ga K "_law_draw") T.fd_law_draw ["pool", "many"] (sp_law_draw K) := by
  refine T.F_law_draw.ok sc_law_draw (fun vs H Q E h => ?_) (fun cdv A outer s H vs Q E hr h => ?_)
  · obtain ⟨S, m, c, rfl, _⟩ := h
    rfl
  · obtain ⟨S, m, c, rfl, ⟨a, b, n, hS, b0, b1, n0, n1⟩, hc, m0, m1, q⟩ := h
    refine ⟨_, PSs.nox (pss_cons (ps_if (pt_cmpR op_gt (pe_ix (show IxR _ (rIxL K) from ix_list) (pv 0) pe_int (fun _ _ => rfl)) pe_int (nomark _)) (pss_cons (ps_set (i := 2) sc_law_draw.nd rfl (Or.inl rfl) (pe_op op_mod (pe_ix (show IxR _ (rIxL K) from ix_list) (pv 0) pe_int (fun _ _ => rfl)) (pv 1)))
      (pss_cons (ps_asg (pe_op op_fdivW (pe_ix (show IxR _ (rIxL K) from ix_list) (pv 0) pe_int (fun _ _ => rfl)) (pv 1)) (pg_sub (pv 0) pe_int set_list))
      (pss_one (ps_ret (pv 2))))) pss_nil)
      (pss_cons (ps_asg (pe_op op_add (pe_ix (show IxR _ (rIxL K) from ix_list) (pv 0) pe_int (fun _ _ => rfl)) pe_int) (pg_sub (pv 0) pe_int set_list))
      (pss_cons (ps_set (i := 3) sc_law_draw.nd rfl (Or.inl rfl) (pe_op op_mod (pe_op op_powW (pe_op op_add (pe_ix (show IxR _ (rIxL K) from ix_list) (pv 0) pe_int (fun _ _ => rfl)) (pe_op op_mul pe_int (pe_ix (show IxR _ (rIxL K) from ix_list) (pv 0) pe_int (fun _ _ => rfl)))) pe_int) pe_int))
      (pss_cons (ps_set (i := 3) sc_law_draw.nd rfl (Or.inl rfl) (pe_op op_mod (pe_op op_powW (pe_op op_add (pv 3) (pe_op op_mul pe_int (pe_ix (show IxR _ (rIxL K) from ix_list) (pv 0) pe_int (fun _ _ => rfl)))) pe_int) pe_int))
      (pss_one (ps_ret (pe_op op_mod (pe_op op_fdiv (pv 3) pe_int) (pv 1)))))))), ?_⟩
    rw [start_law_draw]
    repeat cell_call
    refine st_iD (fun hl => ?_) (fun hl => ?_)
    · repeat cell_call
      refine st_I (wide_div m0 (b := 200) (nat_of (by omega) (by omega)) (by decide) (by decide)) ?_
      repeat cell_call
      exact q _ _ (Int.emod_nonneg _ (by omega)) (Int.emod_lt_of_pos _ m0) ⟨_, b, n, upd_same, b0, b1, n0, by omega⟩ Frm.set
    · repeat cell_call
      refine st_I (powW_of (b := 70) (nat_of (by omega) (by omega)) (by decide) (by decide) (by decide)) ?_
      repeat cell_call
      refine st_I (powW_of (b := 120) (nat_of (by omega) (by omega)) (by decide) (by decide) (by decide)) ?_
      repeat cell_call
      exact q _ _ (Int.emod_nonneg _ (by omega)) (Int.emod_lt_of_pos _ m0) ⟨_, b, _, upd_same, b0, b1, by omega, by omega⟩ Frm.set

def sp_law_days (K : PySem.W.Frag) : Sp := fun vs H Q _ => ∃ n : Int, vs = [.int n] ∧ ∀ H', Same H H' → Q (.int (lenN n)) H'
theorem ok_law_days (T : Txt K mg) : FnOk P w K mg base CX0 1 (He.ga K "_law_days") T.fd_law_days ["number"] (sp_law_days K) := by
  refine T.F_law_days.ok sc_law_days (fun vs H Q E h => ?_) (fun cdv A outer s H vs Q E hr h => ?_)
  · obtain ⟨n, rfl, _⟩ := h
    rfl
  · obtain ⟨n, rfl, q⟩ := h
    refine ⟨_, PSs.nox (pss_cons (ps_par (i := 1) (j := 2) (by rfl) sc_law_days.nd rfl rfl (by decide) rfl rfl (pa_cons (pe_op op_fdiv (pv 0) pe_int) (pa_cons (pe_op op_mod (pv 0) pe_int) pa_nil)) (by rfl))
      (pss_cons (ps_if (pt_cmpR op_eqI (pv 2) pe_int (nomark _)) (pss_one (ps_ret (pe_op op_add pe_int (pe_callTy call_int1 (by rfl) T.b_int (by decide +kernel) (pa_cons (pe_or (pe_cmpR op_eqI (pe_op op_mod (pv 1) pe_int) pe_int (nomark _)) (pe_one (pe_and (pe_cmpR op_eqI (pe_op op_mod (pv 1) pe_int) pe_int (nomark _)) (pe_one (pe_cmpR op_neI (pe_op op_mod (pv 1) pe_int) pe_int (nomark _)))))) pa_nil))))) pss_nil)
      (pss_one (ps_ret (pe_ix (show IxR _ (rIxL K) from ix_list) (pe_lst (pa_cons pe_int (pa_cons pe_int (pa_cons pe_int (pa_cons pe_int (pa_cons pe_int (pa_cons pe_int (pa_cons pe_int (pa_cons pe_int (pa_cons pe_int (pa_cons pe_int (pa_cons pe_int (pa_cons pe_int pa_nil))))))))))))) (pv 2) (fun _ _ => rfl)))))), ?_⟩
    rw [start_law_days]
    repeat cell_call
    refine st_iD (fun hm => ?_) (fun hm => ?_)
    · repeat' kpf_close
      all_goals (refine q_of (q H (Same.refl H)) ?_; congr 1; simp_all [lenN, mlen, leap]; try (split <;> rfl))
    · repeat cell_call
      intro p np
      repeat cell_call
      intro k hk
      refine q_of (q _ (Same.new np)) ?_
      rw [lenN_days hm hk]

def sp_law_great (K : PySem.W.Frag) : Sp := fun vs H Q _ => ∃ (S : Addr) (c : Int), vs = [.ref S] ∧ PoolAt H S c ∧ c ≤ 100000000000 ∧
  ∀ r H', -1000000000000000000000000000000 ≤ r → r ≤ 1000000000000000000000000000000 → PoolAt H' S (c + 3) → Frm S H H' → Q (.int r) H'
theorem ok_law_great (T : Txt K mg) : FnOk P w K mg base CX0 2 (He.ga K "_law_great") T.fd_law_great ["pool"] (sp_law_great K) := by
  refine T.F_law_great.ok sc_law_great (fun vs H Q E h => ?_) (fun cdv A outer s H vs Q E hr h => ?_)
  · obtain ⟨S, c, rfl, _⟩ := h
    rfl
  · obtain ⟨S, c, rfl, hP, hc, q⟩ := h
    refine ⟨_, PSs.nox (pss_cons (ps_set (i := 1) sc_law_great.nd rfl (Or.inl rfl) (pe_op op_add (pe_op op_mul (pe_op op_pow pe_int pe_int) (pe_call (ok_law_draw T) (hr.mono (by decide)) rfl T.g_law_draw T.F_law_draw.kp (b_law_draw T) .nil pass0 (pa_cons (pv 0) (pa_cons (pe_op op_pow pe_int pe_int) pa_nil)))) (pe_call (ok_law_draw T) (hr.mono (by decide)) rfl T.g_law_draw T.F_law_draw.kp (b_law_draw T) .nil pass0 (pa_cons (pv 0) (pa_cons (pe_op op_pow pe_int pe_int) pa_nil)))))
      (pss_one (ps_ret (pe_op op_mul (pv 1) (pe_ix (show IxR _ (rIxL K) from ix_list) (pe_lst (pa_cons pe_int (pa_cons (pe_un un_neg pe_int) pa_nil))) (pe_call (ok_law_draw T) (hr.mono (by decide)) rfl T.g_law_draw T.F_law_draw.kp (b_law_draw T) .nil pass0 (pa_cons (pv 0) (pa_cons pe_int pa_nil))) (fun _ _ => rfl)))))), ?_⟩
    rw [start_law_great]
    repeat cell_call
    refine ⟨S, _, c, rfl, hP, by omega, by decide, by decide, fun r1 H1 a1 b1 P1 F1 => ?_⟩
    repeat cell_call
    refine ⟨S, _, _, rfl, P1, by omega, by decide, by decide, fun r2 H2 a2 b2 P2 F2 => ?_⟩
    repeat cell_call
    intro p np
    repeat cell_call
    obtain ⟨x, y, z, hS, P3⟩ := P2
    have nS : p ≠ S := Ne.symm (ne_of_none hS np)
    refine ⟨S, _, _, rfl, ⟨x, y, z, by lcg_off, P3⟩, by omega, by decide, by decide, fun r3 H3 a3 b3 P4 F3 => ?_⟩
    repeat cell_call
    intro k hk
    replace hk := List.mem_of_getElem? hk
    simp only [List.mem_cons, List.not_mem_nil, or_false] at hk
    repeat cell_call
    have F : Frm S H H3 := F1.trans (F2.trans ((Same.frm (Same.new np)).trans F3))
    rcases hk with rfl | rfl
    · exact q _ _ (by omega) (by omega) (by obtain ⟨x, y, z, h1, h2, h3, h4, h5⟩ := P4; exact ⟨x, y, z, h1, h2, h3, h4, by omega⟩) F
    · exact q _ _ (by omega) (by omega) (by obtain ⟨x, y, z, h1, h2, h3, h4, h5⟩ := P4; exact ⟨x, y, z, h1, h2, h3, h4, by omega⟩) F

def sp_law_date (K : PySem.W.Frag) : Sp := fun vs H Q _ => ∃ (S : Addr) (c : Int), vs = [.ref S] ∧ PoolAt H S c ∧ c ≤ 10000000000 ∧
  ∀ (p : Addr) (s : Dt) (H' : Hp), H p = none → PoolAt H' S (c + 20) → Frm S H H' → H' p = some (.tup (dT s)) → okS s →
    -13000000000000000000000000000000 ≤ s.1 → s.1 ≤ 13000000000000000000000000000000 → Q (.ref p) H'
theorem ok_law_date (T : Txt K mg) : FnOk P w K mg base CX0 3 (He.ga K "_law_date") T.fd_law_date ["pool"] (sp_law_date K) := by
  refine T.F_law_date.ok sc_law_date (fun vs H Q E h => ?_) (fun cdv A outer s H vs Q E hr h => ?_)
  · obtain ⟨S, c, rfl, _⟩ := h
    rfl
  · obtain ⟨S, c, rfl, P0, hc, q⟩ := h
    refine ⟨_, PSs.nox (pss_cons (ps_set (i := 1) sc_law_date.nd rfl (Or.inl rfl) (pe_ix (show IxR _ (rIxL K) from ix_list) (pe_lst (pa_cons (pe_op op_add pe_int (pe_call (ok_law_draw T) (hr.mono (by decide)) rfl T.g_law_draw T.F_law_draw.kp (b_law_draw T) .nil pass0 (pa_cons (pv 0) (pa_cons pe_int pa_nil)))) (pa_cons (pe_op op_sub (pe_call (ok_law_draw T) (hr.mono (by decide)) rfl T.g_law_draw T.F_law_draw.kp (b_law_draw T) .nil pass0 (pa_cons (pv 0) (pa_cons pe_int pa_nil))) pe_int) (pa_cons (pe_call (ok_law_great T) (hr.mono (by decide)) rfl T.g_law_great T.F_law_great.kp (b_law_great T) .nil pass0 (pa_cons (pv 0) pa_nil)) pa_nil)))) (pe_call (ok_law_draw T) (hr.mono (by decide)) rfl T.g_law_draw T.F_law_draw.kp (b_law_draw T) .nil pass0 (pa_cons (pv 0) (pa_cons pe_int pa_nil))) (fun _ _ => rfl)))
      (pss_cons (ps_set (i := 2) sc_law_date.nd rfl (Or.inl rfl) (pe_ix (show IxR _ (rIxL K) from ix_list) (pe_lst (pa_cons (pe_call (ok_law_draw T) (hr.mono (by decide)) rfl T.g_law_draw T.F_law_draw.kp (b_law_draw T) .nil pass0 (pa_cons (pv 0) (pa_cons pe_int pa_nil))) (pa_cons pe_int (pa_cons pe_int pa_nil)))) (pe_call (ok_law_draw T) (hr.mono (by decide)) rfl T.g_law_draw T.F_law_draw.kp (b_law_draw T) .nil pass0 (pa_cons (pv 0) (pa_cons pe_int pa_nil))) (fun _ _ => rfl)))
      (pss_cons (ps_set (i := 3) sc_law_date.nd rfl (Or.inl rfl) (pe_call (ok_law_days T) (hr.mono (by decide)) rfl T.g_law_days T.F_law_days.kp (b_law_days T) .nil pass0 (pa_cons (pe_op op_add (pe_op op_mul pe_int (pv 1)) (pv 2)) pa_nil)))
      (pss_cons (ps_set (i := 4) sc_law_date.nd rfl (Or.inl rfl) (pe_ix (show IxR _ (rIxL K) from ix_list) (pe_lst (pa_cons (pv 3) (pa_cons (pe_op op_add pe_int (pe_call (ok_law_draw T) (hr.mono (by decide)) rfl T.g_law_draw T.F_law_draw.kp (b_law_draw T) .nil pass0 (pa_cons (pv 0) (pa_cons (pv 3) pa_nil)))) (pa_cons (pe_op op_sub (pv 3) (pe_call (ok_law_draw T) (hr.mono (by decide)) rfl T.g_law_draw T.F_law_draw.kp (b_law_draw T) .nil pass0 (pa_cons (pv 0) (pa_cons pe_int pa_nil)))) pa_nil)))) (pe_call (ok_law_draw T) (hr.mono (by decide)) rfl T.g_law_draw T.F_law_draw.kp (b_law_draw T) .nil pass0 (pa_cons (pv 0) (pa_cons pe_int pa_nil))) (fun _ _ => rfl)))
      (pss_one (ps_ret (pe_tup (pa_cons (pv 1) (pa_cons (pe_op op_add (pv 2) pe_int) (pa_cons (pv 4) pa_nil)))))))))), ?_⟩
    rw [start_law_date]
    repeat cell_call
    refine ⟨S, _, c, rfl, P0, by omega, by decide, by decide, fun r1 H1 a1 b1 P1 F1 => ?_⟩
    repeat cell_call
    refine ⟨S, _, _, rfl, P1, by omega, by decide, by decide, fun r2 H2 a2 b2 P2 F2 => ?_⟩
    repeat cell_call
    refine ⟨S, _, rfl, P2, by omega, fun r3 H3 a3 b3 P3 F3 => ?_⟩
    repeat cell_call
    intro p1 n1
    repeat cell_call
    have e1 := P3.ne n1
    refine ⟨S, _, _, rfl, P3.new n1, by omega, by decide, by decide, fun r4 H4 a4 b4 P4 F4 => ?_⟩
    repeat cell_call
    intro y hy
    replace hy := List.mem_of_getElem? hy
    simp only [List.mem_cons, List.not_mem_nil, or_false] at hy
    have y0 : -1000000000000000000000000000000 ≤ y := by omega
    have y1 : y ≤ 1000000000000000000000000000000 := by omega
    repeat cell_call
    refine ⟨S, _, _, rfl, P4, by omega, by decide, by decide, fun r5 H5 a5 b5 P5 F5 => ?_⟩
    repeat cell_call
    intro p2 n2
    repeat cell_call
    have e2 := P5.ne n2
    refine ⟨S, _, _, rfl, P5.new n2, by omega, by decide, by decide, fun r6 H6 a6 b6 P6 F6 => ?_⟩
    repeat cell_call
    intro m hm
    replace hm := List.mem_of_getElem? hm
    simp only [List.mem_cons, List.not_mem_nil, or_false] at hm
    have m0 : 0 ≤ m := by omega
    have m1 : m < 12 := by omega
    repeat cell_call
    refine ⟨_, rfl, fun H7 F7 => ?_⟩
    have lb := lenN_bd (12 * y + m)
    have le := lenN_ym (y := y) m0 m1
    repeat cell_call
    refine ⟨S, _, _, rfl, P6.same F7, by omega, by omega, by omega, fun r8 H8 a8 b8 P8 F8 => ?_⟩
    repeat cell_call
    refine ⟨S, _, _, rfl, P8, by omega, by decide, by decide, fun r9 H9 a9 b9 P9 F9 => ?_⟩
    repeat cell_call
    intro p3 n3
    repeat cell_call
    have e3 := P9.ne n3
    refine ⟨S, _, _, rfl, P9.new n3, by omega, by decide, by decide, fun ra Ha aa ba Pa Fa => ?_⟩
    repeat cell_call
    intro d hd
    replace hd := List.mem_of_getElem? hd
    simp only [List.mem_cons, List.not_mem_nil, or_false] at hd
    repeat cell_call
    intro p4 n4
    have e4 := Pa.ne n4
    have FF : Frm S H Ha := by k_memK
    refine q p4 (12 * y + m, d) _ (frm_free n4 e4 FF) ((Pa.new n4).mono (by omega)) (by k_memK) ?_ ?_ (by omega) (by omega)
    · rw [upd_same, show 12 * y + m = 12 * y + (m + 1) - 1 by omega, dT_ym (by omega) (by omega)]
    · show 1 ≤ d ∧ d ≤ lenN (12 * y + m)
      omega

def sp_law_stride (K : PySem.W.Frag) : Sp := fun vs H Q _ => ∃ (S : Addr) (m c : Int), vs = [.ref S, .int m] ∧ PoolAt H S c ∧ c ≤ 10000000000 ∧ 10000 ≤ m + 9999 ∧ m ≤ 1000000000000000000000000000000 ∧
  ∀ r H', (r ≤ m - 1 ∨ r ≤ 10000) → (1 - m ≤ r ∨ -10000 ≤ r) → PoolAt H' S (c + 10) → Frm S H H' → Q (.int r) H'
theorem ok_law_stride (T : Txt K mg) : FnOk P w K mg base CX0 2 (He.ga K "_law_stride") T.fd_law_stride ["pool", "most"] (sp_law_stride K) := by
  refine T.F_law_stride.ok sc_law_stride (fun vs H Q E h => ?_) (fun cdv A outer s H vs Q E hr h => ?_)
  · obtain ⟨S, m, c, rfl, _⟩ := h
    rfl
  · obtain ⟨S, m, c, rfl, P0, hc, m0, m1, q⟩ := h
    refine ⟨_, PSs.nox (pss_cons (ps_set (i := 2) sc_law_stride.nd rfl (Or.inl rfl) (pe_lst (pa_cons (pe_call (ok_law_draw T) (hr.mono (by decide)) rfl T.g_law_draw T.F_law_draw.kp (b_law_draw T) .nil pass0 (pa_cons (pv 0) (pa_cons pe_int pa_nil))) (pa_cons (pe_op op_mul pe_int (pe_call (ok_law_draw T) (hr.mono (by decide)) rfl T.g_law_draw T.F_law_draw.kp (b_law_draw T) .nil pass0 (pa_cons (pv 0) (pa_cons pe_int pa_nil)))) (pa_cons (pe_op op_mul pe_int (pe_call (ok_law_draw T) (hr.mono (by decide)) rfl T.g_law_draw T.F_law_draw.kp (b_law_draw T) .nil pass0 (pa_cons (pv 0) (pa_cons pe_int pa_nil)))) (pa_cons (pe_op op_mul pe_int (pe_call (ok_law_draw T) (hr.mono (by decide)) rfl T.g_law_draw T.F_law_draw.kp (b_law_draw T) .nil pass0 (pa_cons (pv 0) (pa_cons pe_int pa_nil)))) pa_nil))))))
      (pss_cons (ps_expr (show PE _ _ (tBM K _ _ _ _) from pe_bm PySem.F.plainAttrs_list PySem.F.slot_list_append PySem.F.type_list_append mt_append (pv 2) (pa_cons (pe_call (ok_law_draw T) (hr.mono (by decide)) rfl T.g_law_draw T.F_law_draw.kp (b_law_draw T) .nil pass0 (pa_cons (pv 0) (pa_cons (pv 1) pa_nil))) pa_nil)))
      (pss_one (ps_ret (pe_op op_mulW (pe_ix (show IxR _ (rIxL K) from ix_list) (pv 2) (pe_call (ok_law_draw T) (hr.mono (by decide)) rfl T.g_law_draw T.F_law_draw.kp (b_law_draw T) .nil pass0 (pa_cons (pv 0) (pa_cons pe_int pa_nil))) (fun _ _ => rfl)) (pe_ix (show IxR _ (rIxL K) from ix_list) (pe_lst (pa_cons pe_int (pa_cons (pe_un un_neg pe_int) pa_nil))) (pe_call (ok_law_draw T) (hr.mono (by decide)) rfl T.g_law_draw T.F_law_draw.kp (b_law_draw T) .nil pass0 (pa_cons (pv 0) (pa_cons pe_int pa_nil))) (fun _ _ => rfl))))))), ?_⟩
    rw [start_law_stride]
    repeat cell_call
    refine ⟨S, _, c, rfl, P0, by omega, by decide, by decide, fun r1 H1 a1 b1 P1 F1 => ?_⟩
    repeat cell_call
    refine ⟨S, _, _, rfl, P1, by omega, by decide, by decide, fun r2 H2 a2 b2 P2 F2 => ?_⟩
    repeat cell_call
    refine ⟨S, _, _, rfl, P2, by omega, by decide, by decide, fun r3 H3 a3 b3 P3 F3 => ?_⟩
    repeat cell_call
    refine ⟨S, _, _, rfl, P3, by omega, by decide, by decide, fun r4 H4 a4 b4 P4 F4 => ?_⟩
    repeat cell_call
    intro p1 n1
    repeat cell_call
    have e1 := P4.ne n1
    have e1' := e1.symm
    refine ⟨S, _, _, rfl, P4.new n1, by omega, by omega, by omega, fun r5 H5 a5 b5 P5 F5 => ?_⟩
    repeat cell_call
    refine st_app (by lcg_off) (by simp) ?_
    repeat cell_call
    have P5' : PoolAt (upd H5 p1 (.lst ([.int r1, .int (12 * r2), .int (48 * r3), .int (1200 * r4)] ++ [.int r5]))) S (c + 1 + 1 + 1 + 1 + 1) := by
      obtain ⟨x, y, z, h1, h2⟩ := P5
      exact ⟨x, y, z, by lcg_off, h2⟩
    refine ⟨S, _, _, rfl, P5', by omega, by decide, by decide, fun r6 H6 a6 b6 P6 F6 => ?_⟩
    repeat cell_call
    intro k hk
    replace hk := List.mem_of_getElem? hk
    simp only [List.mem_cons, List.not_mem_nil, or_false] at hk
    repeat cell_call
    intro p2 n2
    repeat cell_call
    have e2 := P6.ne n2
    refine ⟨S, _, _, rfl, P6.new n2, by omega, by decide, by decide, fun r7 H7 a7 b7 P7 F7 => ?_⟩
    repeat cell_call
    intro g hg
    replace hg := List.mem_of_getElem? hg
    simp only [List.mem_cons, List.not_mem_nil, or_false] at hg
    refine st_I (wide_mul (a := 200) (b := 10) (by omega) (by omega) (by decide) (by decide) (by decide)) ?_
    have n0 : H p1 = none := frm_free n1 e1 (by k_memK)
    have FF : Frm S H H7 := by k_memK
    rcases hg with rfl | rfl
    · exact q _ _ (by omega) (by omega) (P7.mono (by omega)) FF
    · exact q _ _ (by omega) (by omega) (P7.mono (by omega)) FF

def sp_law_along (K : PySem.W.Frag) : Sp := fun vs H Q _ => ∃ (B L : Addr) (s : Dt) (ns : List Int), vs = [.ref B, .ref L] ∧ H B = some (.tup (dT s)) ∧ SqL K H L (ns.map V.int) ∧ ns.length ≤ 10000 ∧
  ∀ (p : Addr) (ts : List Addr) (H' : Hp), Same H H' → H p = none → H' p = some (.lst (ts.map V.ref)) → ts.length = ns.length + 1 →
    (∀ j, j ≤ ns.length → ∃ t, ts[j]? = some t ∧ H' t = some (.tup (dT ((ns.take j).foldl mvS s)))) → Q (.ref p) H'
theorem ok_law_along (T : Txt K mg) : FnOk P w K mg base CX0 2 (He.ga K "_law_along") T.fd_law_along ["begun", "strides"] (sp_law_along K) := by
  refine T.F_law_along.ok sc_law_along (fun vs H Q E h => ?_) (fun cdv A outer s H vs Q E hr h => ?_)
  · obtain ⟨B, L, s, ns, rfl, _⟩ := h
    rfl
  · obtain ⟨B, L, s, ns, rfl, hB, hL, hl, q⟩ := h
    refine ⟨_, PSs.nox (pss_cons (ps_set (i := 2) sc_law_along.nd rfl (Or.inl rfl) (pe_lst (pa_cons (pv 0) pa_nil)))
      (pss_cons (ps_par (i := 3) (j := 4) (by rfl) sc_law_along.nd rfl rfl (by decide) rfl rfl (pa_cons (pe_op op_sub (pe_op op_add (pe_op op_mul pe_int (pe_ix (show IxR _ (rIxT K) from ix_tup) (pv 0) pe_int (fun _ _ => rfl))) (pe_ix (show IxR _ (rIxT K) from ix_tup) (pv 0) pe_int (fun _ _ => rfl))) pe_int) (pa_cons (pe_ix (show IxR _ (rIxT K) from ix_tup) (pv 0) pe_int (fun _ _ => rfl)) pa_nil)) (by rfl))
      (pss_cons (ps_for PassesOwn.never rfl (show PI _ _ _ (iList K _) from pi_list (pv 1)) (pg_name (i := 5) sc_law_along.nd rfl (Or.inl rfl)) (pss_cons (ps_set (i := 3) sc_law_along.nd rfl (Or.inl rfl) (pe_op op_add (pv 3) (pv 5)))
      (pss_cons (ps_set (i := 4) sc_law_along.nd rfl (Or.inl rfl) (pe_callB (call_minI rfl) (by rfl) T.b_min (by decide +kernel) (pa_cons (pv 4) (pa_cons (pe_call (ok_law_days T) (hr.mono (by decide)) rfl T.g_law_days T.F_law_days.kp (b_law_days T) .nil pass0 (pa_cons (pv 3) pa_nil)) pa_nil))))
      (pss_one (ps_expr (show PE _ _ (tBM K _ _ _ _) from pe_bm PySem.F.plainAttrs_list PySem.F.slot_list_append PySem.F.type_list_append mt_append (pv 2) (pa_cons (pe_tup (pa_cons (pe_op op_fdiv (pv 3) pe_int) (pa_cons (pe_op op_add (pe_op op_mod (pv 3) pe_int) pe_int) (pa_cons (pv 4) pa_nil)))) pa_nil)))))))
      (pss_one (ps_ret (pv 2)))))), ?_⟩
    rw [start_law_along]
    unfold dT at hB
    repeat cell_call
    intro F nF
    have s0 : Same H (upd H F (.lst [.ref B])) := Same.new nF
    have eB : B ≠ F := ne_of_none hB nF
    repeat cell_call
    have e1 : 12 * (s.1 / 12) + (s.1 % 12 + 1) - 1 = s.1 := by omega
    rw [e1]
    refine ⟨⟨_, s0.seq hL⟩, fL (xs := ns.map V.int) (fun i σ' H' => ∃ (ts : List Addr) (x : Option V), σ' = [some (.ref B), some (.ref L), some (.ref F), some (.int ((ns.take i).foldl mvS s).1), some (.int ((ns.take i).foldl mvS s).2), x] ∧
        Same H H' ∧ H' F = some (.lst (ts.map V.ref)) ∧ ts.length = i + 1 ∧ ∀ j, j ≤ i → ∃ t, ts[j]? = some t ∧ H' t = some (.tup (dT ((ns.take j).foldl mvS s))) ∧ t ≠ F)
      ⟨[B], none, rfl, s0, upd_same, rfl, fun j hj => ?_⟩ (fun i σ' H' _ e => ?_) (fun i x σ' H' hx e => ?_) (fun σ' H' e => ?_)⟩
    · obtain rfl : j = 0 := by omega
      exact ⟨B, rfl, by rw [upd_ne eB, hB]; rfl, eB⟩
    · obtain ⟨ts, x, rfl, sm, _⟩ := e
      exact sm.seq hL
    · obtain ⟨ts, z, rfl, sm, hF, hn, ha⟩ := e
      obtain ⟨k, hk, rfl⟩ := int_at hx
      have hi : i < ns.length := by
        have := List.getElem?_eq_some_iff.mp hk
        exact this.1
      repeat cell_call
      refine ⟨_, rfl, fun H1 F1 => ?_⟩
      repeat cell_call
      intro t nt
      have et : F ≠ t := ne_of_none (F1 _ _ hF) nt
      have hF2 : (upd H1 t (.tup [.int ((((ns.take i).foldl mvS s).1 + k) / 12), .int ((((ns.take i).foldl mvS s).1 + k) % 12 + 1), .int (min ((ns.take i).foldl mvS s).2 (lenN (((ns.take i).foldl mvS s).1 + k)))])) F = some (.lst (ts.map V.ref)) := by
        rw [upd_ne et]
        exact F1 _ _ hF
      repeat cell_call
      refine st_app hF2 (by rw [List.length_map]; omega) ?_
      refine ⟨ts ++ [t], some (.int k), ?_, ?_, ?_, ?_, fun j hj => ?_⟩
      · rw [fold_at hk]
        rfl
      · exact same_trU nF (same_trN nt (same_tr F1 sm))
      · rw [upd_same, List.map_append]
        rfl
      · rw [List.length_append, hn]
        rfl
      · by_cases hj2 : j ≤ i
        · obtain ⟨u, h1, h2, h3⟩ := ha j hj2
          refine ⟨u, ?_, ?_, h3⟩
          · rw [List.getElem?_append_left (by omega)]
            exact h1
          · rw [upd_ne h3, upd_ne (ne_of_none (F1 _ _ h2) nt)]
            exact F1 _ _ h2
        · obtain rfl : j = i + 1 := by omega
          refine ⟨t, ?_, ?_, et.symm⟩
          · rw [List.getElem?_append_right (by omega), hn, Nat.sub_self]
            rfl
          · rw [upd_ne et.symm, upd_same, fold_at hk]
            rfl
    · obtain ⟨ts, z, rfl, sm, hF, hn, ha⟩ := e
      rw [List.length_map] at hn ha
      repeat cell_call
      exact q F ts H' sm nF hF hn fun j hj => by
        obtain ⟨t, h1, h2, _⟩ := ha j hj
        exact ⟨t, h1, h2⟩

end
end Mc
namespace Mc
open PySem PySem.Spec PyProof.Rows L2
local macro_rules | `(tactic| lcg_src) => `(tactic| first
  | with_reducible assumption
  | ((with_reducible apply Ne.symm); with_reducible assumption)
  | ((with_reducible apply ne_nf); (with_reducible assumption); lcg_off)
  | ((with_reducible apply Ne.symm); (with_reducible apply ne_nf); (with_reducible assumption); lcg_off))
local macro_rules | `(tactic| lcg_off) => `(tactic| first
  | with_reducible assumption
  | (with_reducible exact upd_same)
  | ((with_reducible apply hp_ne); lcg_src; lcg_off)
  | ((with_reducible apply hp_same); (with_reducible assumption); lcg_off)
  | ((with_reducible apply hp_frm); (with_reducible assumption); lcg_src; lcg_off)
  | ((with_reducible apply hp_frm2); (with_reducible assumption); lcg_src; lcg_src; lcg_off)
  | assumption)
local macro_rules | `(tactic| kpt_turns) => `(tactic| first
  | with_reducible assumption
  | ((with_reducible apply SqL.of); lcg_off)
  | ((with_reducible apply SqT.of); lcg_off)
  | ((with_reducible apply Frm.seq); (with_reducible assumption); lcg_src; kpt_turns)
  | ((with_reducible apply Frm.tup); (with_reducible assumption); lcg_src; kpt_turns)
  | ((with_reducible apply Frm2.seq); (with_reducible assumption); lcg_src; lcg_src; kpt_turns)
  | ((with_reducible apply Frm2.tup); (with_reducible assumption); lcg_src; lcg_src; kpt_turns)
  | ((with_reducible apply L2.Same.seq); (with_reducible assumption); kpt_turns)
  | ((with_reducible apply Same.tup); (with_reducible assumption); kpt_turns)
  | assumption)
local macro_rules | `(tactic| k_memK) => `(tactic| first
  | with_reducible exact Frm.refl _
  | with_reducible assumption
  | ((with_reducible apply Frm.trN); (with_reducible assumption); k_memK)
  | ((with_reducible apply Frm.trU); k_memK)
  | ((with_reducible apply Frm.trM); (with_reducible assumption); k_memK)
  | ((with_reducible apply Frm.tr); (with_reducible assumption); k_memK)
  | ((with_reducible apply Frm.trS); (with_reducible assumption); k_memK)
  | with_reducible exact Frm2.refl _
  | ((with_reducible apply Frm2.trN); (with_reducible assumption); k_memK)
  | ((with_reducible apply Frm2.trU); k_memK)
  | ((with_reducible apply Frm2.trV); k_memK)
  | ((with_reducible apply Frm2.trM); (with_reducible assumption); k_memK)
  | ((with_reducible apply Frm2.tr); (with_reducible assumption); k_memK)
  | ((with_reducible apply Frm2.trS); (with_reducible assumption); k_memK))
local macro_rules | `(tactic| k_allIn) => `(tactic| first
  | with_reducible exact L2.Same.refl _
  | with_reducible assumption
  | ((with_reducible apply same_trN); (with_reducible assumption); k_allIn)
  | ((with_reducible apply same_trU); (with_reducible assumption); k_allIn)
  | ((with_reducible apply same_tr); (with_reducible assumption); k_allIn))
local macro_rules | `(tactic| k_ownIn) => `(tactic| first
  | with_reducible refine st_seq ?_
  | ((with_reducible refine' st_setF ?e ?_); (case e => intro x; (simp only [List.set_cons_zero, List.set_cons_succ]; exact rfl)))
  | with_reducible refine st_c ?_
  | ((with_reducible refine' st_var ?h ?_); (case h => exact rfl))
  | with_reducible refine st_op ?_
  | with_reducible refine st_I0 ?_
  | ((with_reducible refine' st_powL ?c ?e ?_); (case c => exact ⟨by decide, by decide, by decide⟩); (case e => (simp only [Int.reduceToNat, Int.reducePow]; exact rfl)))
  | ((with_reducible refine st_I ?h ?_); (case h => first | with_reducible assumption | (show (0 : Int) < _; omega) | exact ⟨by omega, by omega⟩ | exact .inl ⟨by omega, by omega⟩ | exact .inr ⟨by omega, by omega⟩ | exact ⟨by omega, by omega, by omega⟩))
  | with_reducible refine st_nil ?_
  | with_reducible refine st_cons ?_
  | with_reducible refine st_ret ?_
  | with_reducible refine st_call ?_
  | with_reducible refine st_cb ?_
  | with_reducible refine st_exb ?_
  | ((with_reducible refine' st_ixL ?h1 ?h2 ?_); (case h1 => kpt_turns); (case h2 => first | ((with_reducible apply at0); exact rfl) | ((with_reducible apply at1); exact rfl) | ((with_reducible apply at2); exact rfl) | ((with_reducible apply at3); exact rfl) | with_reducible assumption))
  | ((with_reducible refine' st_ixT ?h1 ?h2 ?_); (case h1 => kpt_turns); (case h2 => first | ((with_reducible apply at0); exact rfl) | ((with_reducible apply at1); exact rfl) | ((with_reducible apply at2); exact rfl) | with_reducible assumption))
  | ((with_reducible refine' st_ixP ?h1 ?h2 ?h3 ?h4 ?_); (case h1 => kpt_turns); (case h2 => (repeat constructor)); (case h3 => omega); (case h4 => (simp; omega)))
  | ((with_reducible refine' st_ixPT ?h1 ?h2 ?h3 ?h4 ?_); (case h1 => kpt_turns); (case h2 => (repeat constructor)); (case h3 => omega); (case h4 => (simp; omega)))
  | with_reducible refine st_tB ?_
  | with_reducible refine st_test ?_
  | with_reducible refine st_and ?_
  | with_reducible refine st_or ?_
  | with_reducible refine st_not ?_
  | with_reducible refine st_andV ?_
  | with_reducible refine st_orV ?_
  | with_reducible refine st_notV ?_
  | with_reducible refine st_chain ?_
  | with_reducible refine st_iT ?_
  | with_reducible refine st_iF ?_
  | with_reducible refine st_iNT ?_
  | with_reducible refine st_iNF ?_
  | with_reducible refine st_iRf ?_
  | with_reducible refine st_iNRf ?_
  | with_reducible refine st_asg ?_
  | ((with_reducible refine' st_parF ?e ?_); (case e => intro x y; (simp only [List.set_cons_zero, List.set_cons_succ]; exact rfl)))
  | with_reducible refine st_par2 ?_
  | with_reducible refine st_fst ?_
  | with_reducible refine st_jsE ?_
  | with_reducible refine st_js ?_
  | with_reducible refine st_fmt ?_
  | with_reducible refine st_joinK ?_
  | with_reducible refine st_strx ?_
  | ((with_reducible refine' st_par3F ?e ?_); (case e => intro x y z; (simp only [List.set_cons_zero, List.set_cons_succ]; exact rfl)))
  | with_reducible refine st_par3 ?_
  | ((with_reducible refine' st_augF ?h ?e ?_); (case h => exact rfl); (case e => intro x; (simp only [List.set_cons_zero, List.set_cons_succ]; exact rfl)))
  | with_reducible refine st_ipI ?_
  | with_reducible refine st_drop ?_
  | with_reducible refine st_next ?_
  | with_reducible refine st_un ?_
  | with_reducible refine st_U ?_
  | ((with_reducible refine' st_gNF ?e ?_); (case e => (simp only [List.set_cons_zero, List.set_cons_succ]; exact rfl)))
  | with_reducible refine st_gN ?_
  | ((with_reducible refine' st_gT ?h1 ?h2 ?_); (case h1 => kpt_turns); (case h2 => exact rfl))
  | with_reducible refine st_gC ?_
  | with_reducible refine st_gE ?_
  | with_reducible refine st_gS ?_
  | ((with_reducible refine' st_setL ?h1 ?h2 ?_); (case h1 => lcg_off); (case h2 => exact rfl))
  | with_reducible refine st_lst ?_
  | with_reducible refine st_tup ?_
  | ((with_reducible refine st_new ?h ?_); (case h => (simp; done)))
  | with_reducible refine st_callN ?_
  | with_reducible refine st_bm ?_
  | with_reducible refine st_bm0 ?_
  | ((with_reducible refine' st_tyL ?h ?_); (case h => kpt_turns))
  | ((with_reducible refine st_eq ?h ?_); (case h => exact rfl))
  | ((with_reducible refine st_ne ?h ?_); (case h => exact rfl))
  | with_reducible refine st_i1 ?_
  | with_reducible refine st_i2 ?_
  | with_reducible refine st_int ?_
  | with_reducible refine st_intb ?_
  | ((with_reducible refine' st_lenQ ?h ?_); (case h => kpt_turns))
  | ((with_reducible refine' st_lenQT ?h ?_); (case h => kpt_turns))
  | with_reducible refine st_yes ?_
  | with_reducible refine st_brk ?_
  | with_reducible refine st_cont ?_
  | with_reducible refine st_retN ?_
  | with_reducible refine st_forI ?_
  | with_reducible refine st_lcI ?_
  | with_reducible refine st_itL ?_
  | with_reducible refine st_itT ?_
  | with_reducible refine st_rng1 ?_
  | with_reducible refine st_rng2 ?_
  | with_reducible refine st_ref ?_
  | with_reducible refine st_sl ?_
  | with_reducible refine st_pN ?_
  | with_reducible refine st_pS ?_
  | with_reducible refine st_pI ?_
  | (refine ⟨rfl, ?_⟩))
local macro_rules | `(tactic| cell_call) => `(tactic| first
  | with_reducible refine st_seq ?_
  | ((with_reducible refine' st_setF ?e ?_); (case e => intro x; (simp only [List.set_cons_zero, List.set_cons_succ]; exact rfl)))
  | with_reducible refine st_c ?_
  | ((with_reducible refine' st_var ?h ?_); (case h => exact rfl))
  | with_reducible refine st_op ?_
  | with_reducible refine st_I0 ?_
  | ((with_reducible refine' st_powL ?c ?e ?_); (case c => exact ⟨by decide, by decide, by decide⟩); (case e => (simp only [Int.reduceToNat, Int.reducePow]; exact rfl)))
  | ((with_reducible refine st_I ?h ?_); (case h => first | with_reducible assumption | (show (0 : Int) < _; omega) | exact ⟨by omega, by omega⟩ | exact .inl ⟨by omega, by omega⟩ | exact .inr ⟨by omega, by omega⟩ | exact ⟨by omega, by omega, by omega⟩))
  | with_reducible refine st_nil ?_
  | with_reducible refine st_cons ?_
  | with_reducible refine st_ret ?_
  | with_reducible refine st_call ?_
  | with_reducible refine st_cb ?_
  | with_reducible refine st_exb ?_
  | ((with_reducible refine' st_ixL ?h1 ?h2 ?_); (case h1 => kpt_turns); (case h2 => first | ((with_reducible apply at0); exact rfl) | ((with_reducible apply at1); exact rfl) | ((with_reducible apply at2); exact rfl) | ((with_reducible apply at3); exact rfl) | with_reducible assumption))
  | ((with_reducible refine' st_ixT ?h1 ?h2 ?_); (case h1 => kpt_turns); (case h2 => first | ((with_reducible apply at0); exact rfl) | ((with_reducible apply at1); exact rfl) | ((with_reducible apply at2); exact rfl) | with_reducible assumption))
  | ((with_reducible refine' st_ixP ?h1 ?h2 ?h3 ?h4 ?_); (case h1 => kpt_turns); (case h2 => (repeat constructor)); (case h3 => omega); (case h4 => (simp; omega)))
  | ((with_reducible refine' st_ixPT ?h1 ?h2 ?h3 ?h4 ?_); (case h1 => kpt_turns); (case h2 => (repeat constructor)); (case h3 => omega); (case h4 => (simp; omega)))
  | with_reducible refine st_tB ?_
  | with_reducible refine st_test ?_
  | with_reducible refine st_and ?_
  | with_reducible refine st_or ?_
  | with_reducible refine st_not ?_
  | with_reducible refine st_andV ?_
  | with_reducible refine st_orV ?_
  | with_reducible refine st_notV ?_
  | with_reducible refine st_chain ?_
  | with_reducible refine st_iT ?_
  | with_reducible refine st_iF ?_
  | with_reducible refine st_iNT ?_
  | with_reducible refine st_iNF ?_
  | with_reducible refine st_iRf ?_
  | with_reducible refine st_iNRf ?_
  | with_reducible refine st_asg ?_
  | ((with_reducible refine' st_parF ?e ?_); (case e => intro x y; (simp only [List.set_cons_zero, List.set_cons_succ]; exact rfl)))
  | with_reducible refine st_par2 ?_
  | with_reducible refine st_fst ?_
  | with_reducible refine st_jsE ?_
  | with_reducible refine st_js ?_
  | with_reducible refine st_fmt ?_
  | with_reducible refine st_joinK ?_
  | with_reducible refine st_strx ?_
  | ((with_reducible refine' st_par3F ?e ?_); (case e => intro x y z; (simp only [List.set_cons_zero, List.set_cons_succ]; exact rfl)))
  | with_reducible refine st_par3 ?_
  | ((with_reducible refine' st_augF ?h ?e ?_); (case h => exact rfl); (case e => intro x; (simp only [List.set_cons_zero, List.set_cons_succ]; exact rfl)))
  | with_reducible refine st_ipI ?_
  | with_reducible refine st_drop ?_
  | with_reducible refine st_next ?_
  | with_reducible refine st_un ?_
  | with_reducible refine st_U ?_
  | ((with_reducible refine' st_gNF ?e ?_); (case e => (simp only [List.set_cons_zero, List.set_cons_succ]; exact rfl)))
  | with_reducible refine st_gN ?_
  | ((with_reducible refine' st_gT ?h1 ?h2 ?_); (case h1 => kpt_turns); (case h2 => exact rfl))
  | with_reducible refine st_gC ?_
  | with_reducible refine st_gE ?_
  | with_reducible refine st_gS ?_
  | ((with_reducible refine' st_setL ?h1 ?h2 ?_); (case h1 => lcg_off); (case h2 => exact rfl))
  | with_reducible refine st_lst ?_
  | with_reducible refine st_tup ?_
  | ((with_reducible refine st_new ?h ?_); (case h => (simp; done)))
  | with_reducible refine st_callN ?_
  | with_reducible refine st_bm ?_
  | with_reducible refine st_bm0 ?_
  | ((with_reducible refine' st_tyL ?h ?_); (case h => kpt_turns))
  | ((with_reducible refine st_eq ?h ?_); (case h => exact rfl))
  | ((with_reducible refine st_ne ?h ?_); (case h => exact rfl))
  | with_reducible refine st_i1 ?_
  | with_reducible refine st_i2 ?_
  | with_reducible refine st_int ?_
  | with_reducible refine st_intb ?_
  | ((with_reducible refine' st_lenQ ?h ?_); (case h => kpt_turns))
  | ((with_reducible refine' st_lenQT ?h ?_); (case h => kpt_turns))
  | with_reducible refine st_yes ?_
  | with_reducible refine st_brk ?_
  | with_reducible refine st_cont ?_
  | with_reducible refine st_retN ?_
  | with_reducible refine st_forI ?_
  | with_reducible refine st_lcI ?_
  | with_reducible refine st_itL ?_
  | with_reducible refine st_itT ?_
  | with_reducible refine st_rng1 ?_
  | with_reducible refine st_rng2 ?_
  | with_reducible refine st_ref ?_
  | with_reducible refine st_sl ?_
  | with_reducible refine st_pN ?_
  | with_reducible refine st_pS ?_
  | with_reducible refine st_pI ?_
  | (refine ⟨rfl, ?_⟩)
  | with_reducible refine st_ifE ?_
  | with_reducible refine st_ifS ?_)
local macro_rules | `(tactic| kpf_close) => `(tactic| first
  | cell_call
  | refine st_iD (fun _ => ?_) (fun _ => ?_)
  | refine st_iND (fun _ => ?_) (fun _ => ?_)
  | refine st_iNB (fun _ => ?_) (fun _ => ?_)
  | refine st_iB (fun _ => ?_) (fun _ => ?_))
local macro_rules | `(tactic| k_places) => `(tactic| first
  | with_reducible refine isi_non_bool ?_
  | with_reducible refine isi_non_int ?_
  | with_reducible refine isi_non_str ?_
  | with_reducible refine isi_non_list ?_
  | with_reducible refine isi_non_tuple ?_
  | with_reducible refine isi_bl_bool ?_
  | with_reducible refine isi_bl_int ?_
  | with_reducible refine isi_bl_str ?_
  | with_reducible refine isi_bl_list ?_
  | with_reducible refine isi_bl_tuple ?_
  | with_reducible refine isi_int_bool ?_
  | with_reducible refine isi_int_int ?_
  | with_reducible refine isi_int_str ?_
  | with_reducible refine isi_int_list ?_
  | with_reducible refine isi_int_tuple ?_
  | with_reducible refine isi_str_bool ?_
  | with_reducible refine isi_str_int ?_
  | with_reducible refine isi_str_str ?_
  | with_reducible refine isi_str_list ?_
  | with_reducible refine isi_str_tuple ?_
  | ((with_reducible refine' isi_list_bool ?h ?_); (case h => kpt_turns))
  | ((with_reducible refine' isi_list_int ?h ?_); (case h => kpt_turns))
  | ((with_reducible refine' isi_list_str ?h ?_); (case h => kpt_turns))
  | ((with_reducible refine' isi_list_list ?h ?_); (case h => kpt_turns))
  | ((with_reducible refine' isi_list_tuple ?h ?_); (case h => kpt_turns))
  | ((with_reducible refine' isi_tuple_bool ?h ?_); (case h => kpt_turns))
  | ((with_reducible refine' isi_tuple_int ?h ?_); (case h => kpt_turns))
  | ((with_reducible refine' isi_tuple_str ?h ?_); (case h => kpt_turns))
  | ((with_reducible refine' isi_tuple_list ?h ?_); (case h => kpt_turns))
  | ((with_reducible refine' isi_tuple_tuple ?h ?_); (case h => kpt_turns)))
section
variable {P : Program} {w : World} {K : PySem.W.Frag} {mg : Str → Option Value} {base : Heap}
theorem okG_is_leap (T : Txt K mg) : Gk.FnOk P w K mg base 1 (He.ga K "is_leap") T.fd_is_leap ["year"] (sp_is_leap K) := by
  refine Gk.okG T.F_is_leap sc_is_leap (fun vs H Q E h => ?_) (fun cdv A outer s H vs Q E hr h => ?_)
  · obtain ⟨y, rfl, _⟩ := h
    rfl
  · obtain ⟨y, rfl, q⟩ := h
    refine ⟨_, Gk.PSs.nox (Gk.pss_one (Gk.ps_ret (Gk.pe_or (Gk.pe_and (Gk.pe_cmpR Gk.op_eqI (Gk.pe_op Gk.op_mod (Gk.pv 0) Gk.pe_int) Gk.pe_int (nomark _)) (Gk.pe_one (Gk.pe_cmpR Gk.op_neI (Gk.pe_op Gk.op_mod (Gk.pv 0) Gk.pe_int) Gk.pe_int (nomark _)))) (Gk.pe_one (Gk.pe_cmpR Gk.op_eqI (Gk.pe_op Gk.op_mod (Gk.pv 0) Gk.pe_int) Gk.pe_int (nomark _)))))), ?_⟩
    rw [start_is_leap]
    repeat' kpf_close
    all_goals (refine q_of q ?_; simp_all [leap])

theorem okG_is_month (T : Txt K mg) : Gk.FnOk P w K mg base 1 (He.ga K "is_month") T.fd_is_month ["month"] (sp_is_month K) := by
  refine Gk.okG T.F_is_month sc_is_month (fun vs H Q E h => ?_) (fun cdv A outer s H vs Q E hr h => ?_)
  · obtain ⟨y, rfl, _⟩ := h
    rfl
  · obtain ⟨y, rfl, q⟩ := h
    refine ⟨_, Gk.PSs.nox (Gk.pss_one (Gk.ps_ret (Gk.pe_chain Gk.op_le Gk.op_le Gk.pe_int (Gk.pv 0) Gk.pe_int))), ?_⟩
    rw [start_is_month]
    repeat' kpf_close
    all_goals (refine q_of q ?_; congr 1; first | (simp_all; done) | (simp_all; omega))

theorem okG_length_of_month (T : Txt K mg) : Gk.FnOk P w K mg base 2 (He.ga K "length_of_month") T.fd_length_of_month ["year", "month"] (sp_length_of_month K) := by
  refine Gk.okG T.F_length_of_month sc_length_of_month (fun vs H Q E h => ?_) (fun cdv A outer s H vs Q E hr h => ?_)
  · obtain ⟨y, m, rfl, _⟩ := h
    rfl
  · obtain ⟨y, m, rfl, q⟩ := h
    refine ⟨_, Gk.PSs.nox (Gk.pss_cons (Gk.ps_if (Gk.pt_cmpR Gk.op_eqI (Gk.pv 1) (Gk.pe_glob (v := .int (2)) rfl T.c_FEBRUARY.2 ⟨_, rfl⟩) (nomark _)) (Gk.pss_one (Gk.ps_ret (Gk.pe_ifExp (Gk.pt_val (Gk.pe_call (okG_is_leap T) (hr.mono (by decide)) rfl T.g_is_leap T.F_is_leap.kp (b_is_leap T) .nil pass0 (Gk.pa_cons (Gk.pv 0) Gk.pa_nil))) Gk.pe_int Gk.pe_int))) Gk.pss_nil)
      (Gk.pss_one (Gk.ps_ret (Gk.pe_ifExp (Gk.pt_cmpR (show Gk.OpR _ _ (rIn K false) from Gk.op_in_seq) (Gk.pv 1) (Gk.pe_glob (v := .ref (He.ga K "SHORT_MONTHS")) rfl T.g_SHORT_MONTHS rfl) (by rfl)) Gk.pe_int Gk.pe_int)))), ?_⟩
    rw [start_length_of_month]
    repeat cell_call
    refine st_iD (fun hm => ?_) (fun hm => ?_)
    · repeat cell_call
      refine ⟨y, rfl, ?_⟩
      repeat cell_call
      refine st_iB (fun hl => ?_) (fun hl => ?_)
      all_goals (refine q_of q ?_; simp_all [mlen])
    · repeat cell_call
      refine st_in (.inr (T.t_SHORT_MONTHS _)) rfl rfl ?_
      repeat cell_call
      rw [if_neg Bool.false_ne_true, show ([V.int 4, V.int 6, V.int 9, V.int 11] : List V) = [4, 6, 9, 11].map V.int from rfl, in_int]
      refine st_iD (fun hl => ?_) (fun hl => ?_)
      all_goals (refine q_of q ?_; simp_all [mlen])

theorem okG_is_date (T : Txt K mg) : Gk.FnOk P w K mg base 3 (He.ga K "is_date") T.fd_is_date ["date"] (sp_is_date K) := by
  refine Gk.okG T.F_is_date sc_is_date (fun vs H Q E h => ?_) (fun cdv A outer s H vs Q E hr h => ?_)
  · obtain ⟨D, y, m, d, rfl, _⟩ := h
    rfl
  · obtain ⟨D, y, m, d, rfl, hD, q⟩ := h
    refine ⟨_, Gk.PSs.nox (Gk.pss_cons (Gk.ps_asg (Gk.pv 0) (show Gk.PG _ _ (gTup K 3 _) from Gk.pg_tup rfl (Gk.pgs_cons (Gk.pg_name (i := 1) sc_is_date.nd rfl (Or.inl rfl)) (Gk.pgs_cons (Gk.pg_name (i := 2) sc_is_date.nd rfl (Or.inl rfl)) (Gk.pgs_cons (Gk.pg_name (i := 3) sc_is_date.nd rfl (Or.inl rfl)) Gk.pgs_nil)))))
      (Gk.pss_one (Gk.ps_ret (Gk.pe_and (Gk.pe_call (okG_is_month T) (hr.mono (by decide)) rfl T.g_is_month T.F_is_month.kp (b_is_month T) .nil pass0 (Gk.pa_cons (Gk.pv 2) Gk.pa_nil)) (Gk.pe_one (Gk.pe_chain Gk.op_le Gk.op_le Gk.pe_int (Gk.pv 3) (Gk.pe_call (okG_length_of_month T) (hr.mono (by decide)) rfl T.g_length_of_month T.F_length_of_month.kp (b_length_of_month T) .nil pass0 (Gk.pa_cons (Gk.pv 1) (Gk.pa_cons (Gk.pv 2) Gk.pa_nil))))))))), ?_⟩
    rw [start_is_date]
    repeat cell_call
    refine ⟨m, rfl, ?_⟩
    repeat cell_call
    refine st_iD (fun hm => ?_) (fun hm => ?_)
    · repeat cell_call
      refine st_iD (fun hd => ?_) (fun hd => ?_)
      · repeat cell_call
        refine ⟨y, m, rfl, ?_⟩
        repeat cell_call
        all_goals (refine q_of q ?_; congr 1; simp_all [dateOk])
      · all_goals (refine q_of q ?_; congr 1; simp_all [dateOk]; omega)
    · all_goals (refine q_of q ?_; congr 1; simp_all [dateOk]; omega)

theorem okG_check_date (T : Txt K mg) : Gk.FnOk P w K mg base 4 (He.ga K "check_date") T.fd_check_date ["date"] (sp_check_date K) := by
  refine Gk.okG T.F_check_date sc_check_date (fun vs H Q E h => ?_) (fun cdv A outer s H vs Q E hr h => ?_)
  · obtain ⟨D, y, m, d, rfl, _⟩ := h
    rfl
  · obtain ⟨D, y, m, d, rfl, hD, ho, q⟩ := h
    refine ⟨_, Gk.PSs.nox (Gk.pss_one (Gk.ps_if (Gk.pt_not (Gk.pt_val (Gk.pe_call (okG_is_date T) (hr.mono (by decide)) rfl T.g_is_date T.F_is_date.kp (b_is_date T) .nil pass0 (Gk.pa_cons (Gk.pv 0) Gk.pa_nil)))) (Gk.pss_one Gk.ps_never) Gk.pss_nil)), ?_⟩
    rw [start_check_date]
    repeat cell_call
    refine ⟨D, y, m, d, rfl, hD, ?_⟩
    rw [ho]
    repeat cell_call
    exact q

theorem okG_month_number (T : Txt K mg) : Gk.FnOk P w K mg base 1 (He.ga K "month_number") T.fd_month_number ["date"] (sp_month_number K) := by
  refine Gk.okG T.F_month_number sc_month_number (fun vs H Q E h => ?_) (fun cdv A outer s H vs Q E hr h => ?_)
  · obtain ⟨D, y, m, d, rfl, _⟩ := h
    rfl
  · obtain ⟨D, y, m, d, rfl, hD, q⟩ := h
    refine ⟨_, Gk.PSs.nox (Gk.pss_one (Gk.ps_ret (Gk.pe_op Gk.op_sub (Gk.pe_op Gk.op_add (Gk.pe_op Gk.op_mul Gk.pe_int (Gk.pe_ix (show Gk.IxR _ (rIxT K) from Gk.ix_tup) (Gk.pv 0) Gk.pe_int (fun _ _ => rfl))) (Gk.pe_ix (show Gk.IxR _ (rIxT K) from Gk.ix_tup) (Gk.pv 0) Gk.pe_int (fun _ _ => rfl))) Gk.pe_int))), ?_⟩
    rw [start_month_number]
    repeat cell_call
    exact q

theorem okG_length_of (T : Txt K mg) : Gk.FnOk P w K mg base 3 (He.ga K "length_of") T.fd_length_of ["number"] (sp_length_of K) := by
  refine Gk.okG T.F_length_of sc_length_of (fun vs H Q E h => ?_) (fun cdv A outer s H vs Q E hr h => ?_)
  · obtain ⟨n, rfl, _⟩ := h
    rfl
  · obtain ⟨n, rfl, q⟩ := h
    refine ⟨_, Gk.PSs.nox (Gk.pss_one (Gk.ps_ret (Gk.pe_call (okG_length_of_month T) (hr.mono (by decide)) rfl T.g_length_of_month T.F_length_of_month.kp (b_length_of_month T) .nil pass0 (Gk.pa_cons (Gk.pe_op Gk.op_fdiv (Gk.pv 0) Gk.pe_int) (Gk.pa_cons (Gk.pe_op Gk.op_add (Gk.pe_op Gk.op_mod (Gk.pv 0) Gk.pe_int) Gk.pe_int) Gk.pa_nil))))), ?_⟩
    rw [start_length_of]
    repeat cell_call
    exact ⟨_, _, rfl, q⟩

theorem okG_date_in (T : Txt K mg) : Gk.FnOk P w K mg base 1 (He.ga K "date_in") T.fd_date_in ["number", "day"] (sp_date_in K) := by
  refine Gk.okG T.F_date_in sc_date_in (fun vs H Q E h => ?_) (fun cdv A outer s H vs Q E hr h => ?_)
  · obtain ⟨n, d, rfl, _⟩ := h
    rfl
  · obtain ⟨n, d, rfl, q⟩ := h
    refine ⟨_, Gk.PSs.nox (Gk.pss_one (Gk.ps_ret (Gk.pe_tup (Gk.pa_cons (Gk.pe_op Gk.op_fdiv (Gk.pv 0) (Gk.pe_glob (v := .int (12)) rfl T.c_MONTHS.2 ⟨_, rfl⟩)) (Gk.pa_cons (Gk.pe_op Gk.op_add (Gk.pe_op Gk.op_mod (Gk.pv 0) (Gk.pe_glob (v := .int (12)) rfl T.c_MONTHS.2 ⟨_, rfl⟩)) Gk.pe_int) (Gk.pa_cons (Gk.pv 1) Gk.pa_nil)))))), ?_⟩
    rw [start_date_in]
    repeat cell_call
    exact q

end
end Mc
namespace Mc
open PySem PySem.Spec PyProof.Rows L2
local macro_rules | `(tactic| lcg_src) => `(tactic| first
  | with_reducible assumption
  | ((with_reducible apply Ne.symm); with_reducible assumption)
  | ((with_reducible apply ne_nf); (with_reducible assumption); lcg_off)
  | ((with_reducible apply Ne.symm); (with_reducible apply ne_nf); (with_reducible assumption); lcg_off))
local macro_rules | `(tactic| lcg_off) => `(tactic| first
  | with_reducible assumption
  | (with_reducible exact upd_same)
  | ((with_reducible apply hp_ne); lcg_src; lcg_off)
  | ((with_reducible apply hp_same); (with_reducible assumption); lcg_off)
  | ((with_reducible apply hp_frm); (with_reducible assumption); lcg_src; lcg_off)
  | ((with_reducible apply hp_frm2); (with_reducible assumption); lcg_src; lcg_src; lcg_off)
  | assumption)
local macro_rules | `(tactic| kpt_turns) => `(tactic| first
  | with_reducible assumption
  | ((with_reducible apply SqL.of); lcg_off)
  | ((with_reducible apply SqT.of); lcg_off)
  | ((with_reducible apply Frm.seq); (with_reducible assumption); lcg_src; kpt_turns)
  | ((with_reducible apply Frm.tup); (with_reducible assumption); lcg_src; kpt_turns)
  | ((with_reducible apply Frm2.seq); (with_reducible assumption); lcg_src; lcg_src; kpt_turns)
  | ((with_reducible apply Frm2.tup); (with_reducible assumption); lcg_src; lcg_src; kpt_turns)
  | ((with_reducible apply L2.Same.seq); (with_reducible assumption); kpt_turns)
  | ((with_reducible apply Same.tup); (with_reducible assumption); kpt_turns)
  | assumption)
local macro_rules | `(tactic| k_memK) => `(tactic| first
  | with_reducible exact Frm.refl _
  | with_reducible assumption
  | ((with_reducible apply Frm.trN); (with_reducible assumption); k_memK)
  | ((with_reducible apply Frm.trU); k_memK)
  | ((with_reducible apply Frm.trM); (with_reducible assumption); k_memK)
  | ((with_reducible apply Frm.tr); (with_reducible assumption); k_memK)
  | ((with_reducible apply Frm.trS); (with_reducible assumption); k_memK)
  | with_reducible exact Frm2.refl _
  | ((with_reducible apply Frm2.trN); (with_reducible assumption); k_memK)
  | ((with_reducible apply Frm2.trU); k_memK)
  | ((with_reducible apply Frm2.trV); k_memK)
  | ((with_reducible apply Frm2.trM); (with_reducible assumption); k_memK)
  | ((with_reducible apply Frm2.tr); (with_reducible assumption); k_memK)
  | ((with_reducible apply Frm2.trS); (with_reducible assumption); k_memK))
local macro_rules | `(tactic| k_allIn) => `(tactic| first
  | with_reducible exact L2.Same.refl _
  | with_reducible assumption
  | ((with_reducible apply same_trN); (with_reducible assumption); k_allIn)
  | ((with_reducible apply same_trU); (with_reducible assumption); k_allIn)
  | ((with_reducible apply same_tr); (with_reducible assumption); k_allIn))
local macro_rules | `(tactic| k_ownIn) => `(tactic| first
  | with_reducible refine st_seq ?_
  | ((with_reducible refine' st_setF ?e ?_); (case e => intro x; (simp only [List.set_cons_zero, List.set_cons_succ]; exact rfl)))
  | with_reducible refine st_c ?_
  | ((with_reducible refine' st_var ?h ?_); (case h => exact rfl))
  | with_reducible refine st_op ?_
  | with_reducible refine st_I0 ?_
  | ((with_reducible refine' st_powL ?c ?e ?_); (case c => exact ⟨by decide, by decide, by decide⟩); (case e => (simp only [Int.reduceToNat, Int.reducePow]; exact rfl)))
  | ((with_reducible refine st_I ?h ?_); (case h => first | with_reducible assumption | (show (0 : Int) < _; omega) | exact ⟨by omega, by omega⟩ | exact .inl ⟨by omega, by omega⟩ | exact .inr ⟨by omega, by omega⟩ | exact ⟨by omega, by omega, by omega⟩))
  | with_reducible refine st_nil ?_
  | with_reducible refine st_cons ?_
  | with_reducible refine st_ret ?_
  | with_reducible refine st_call ?_
  | with_reducible refine st_cb ?_
  | with_reducible refine st_exb ?_
  | ((with_reducible refine' st_ixL ?h1 ?h2 ?_); (case h1 => kpt_turns); (case h2 => first | ((with_reducible apply at0); exact rfl) | ((with_reducible apply at1); exact rfl) | ((with_reducible apply at2); exact rfl) | ((with_reducible apply at3); exact rfl) | with_reducible assumption))
  | ((with_reducible refine' st_ixT ?h1 ?h2 ?_); (case h1 => kpt_turns); (case h2 => first | ((with_reducible apply at0); exact rfl) | ((with_reducible apply at1); exact rfl) | ((with_reducible apply at2); exact rfl) | with_reducible assumption))
  | ((with_reducible refine' st_ixP ?h1 ?h2 ?h3 ?h4 ?_); (case h1 => kpt_turns); (case h2 => (repeat constructor)); (case h3 => omega); (case h4 => (simp; omega)))
  | ((with_reducible refine' st_ixPT ?h1 ?h2 ?h3 ?h4 ?_); (case h1 => kpt_turns); (case h2 => (repeat constructor)); (case h3 => omega); (case h4 => (simp; omega)))
  | with_reducible refine st_tB ?_
  | with_reducible refine st_test ?_
  | with_reducible refine st_and ?_
  | with_reducible refine st_or ?_
  | with_reducible refine st_not ?_
  | with_reducible refine st_andV ?_
  | with_reducible refine st_orV ?_
  | with_reducible refine st_notV ?_
  | with_reducible refine st_chain ?_
  | with_reducible refine st_iT ?_
  | with_reducible refine st_iF ?_
  | with_reducible refine st_iNT ?_
  | with_reducible refine st_iNF ?_
  | with_reducible refine st_iRf ?_
  | with_reducible refine st_iNRf ?_
  | with_reducible refine st_asg ?_
  | ((with_reducible refine' st_parF ?e ?_); (case e => intro x y; (simp only [List.set_cons_zero, List.set_cons_succ]; exact rfl)))
  | with_reducible refine st_par2 ?_
  | with_reducible refine st_fst ?_
  | with_reducible refine st_jsE ?_
  | with_reducible refine st_js ?_
  | with_reducible refine st_fmt ?_
  | with_reducible refine st_joinK ?_
  | with_reducible refine st_strx ?_
  | ((with_reducible refine' st_par3F ?e ?_); (case e => intro x y z; (simp only [List.set_cons_zero, List.set_cons_succ]; exact rfl)))
  | with_reducible refine st_par3 ?_
  | ((with_reducible refine' st_augF ?h ?e ?_); (case h => exact rfl); (case e => intro x; (simp only [List.set_cons_zero, List.set_cons_succ]; exact rfl)))
  | with_reducible refine st_ipI ?_
  | with_reducible refine st_drop ?_
  | with_reducible refine st_next ?_
  | with_reducible refine st_un ?_
  | with_reducible refine st_U ?_
  | ((with_reducible refine' st_gNF ?e ?_); (case e => (simp only [List.set_cons_zero, List.set_cons_succ]; exact rfl)))
  | with_reducible refine st_gN ?_
  | ((with_reducible refine' st_gT ?h1 ?h2 ?_); (case h1 => kpt_turns); (case h2 => exact rfl))
  | with_reducible refine st_gC ?_
  | with_reducible refine st_gE ?_
  | with_reducible refine st_gS ?_
  | ((with_reducible refine' st_setL ?h1 ?h2 ?_); (case h1 => lcg_off); (case h2 => exact rfl))
  | with_reducible refine st_lst ?_
  | with_reducible refine st_tup ?_
  | ((with_reducible refine st_new ?h ?_); (case h => (simp; done)))
  | with_reducible refine st_callN ?_
  | with_reducible refine st_bm ?_
  | with_reducible refine st_bm0 ?_
  | ((with_reducible refine' st_tyL ?h ?_); (case h => kpt_turns))
  | ((with_reducible refine st_eq ?h ?_); (case h => exact rfl))
  | ((with_reducible refine st_ne ?h ?_); (case h => exact rfl))
  | with_reducible refine st_i1 ?_
  | with_reducible refine st_i2 ?_
  | with_reducible refine st_int ?_
  | with_reducible refine st_intb ?_
  | ((with_reducible refine' st_lenQ ?h ?_); (case h => kpt_turns))
  | ((with_reducible refine' st_lenQT ?h ?_); (case h => kpt_turns))
  | with_reducible refine st_yes ?_
  | with_reducible refine st_brk ?_
  | with_reducible refine st_cont ?_
  | with_reducible refine st_retN ?_
  | with_reducible refine st_forI ?_
  | with_reducible refine st_lcI ?_
  | with_reducible refine st_itL ?_
  | with_reducible refine st_itT ?_
  | with_reducible refine st_rng1 ?_
  | with_reducible refine st_rng2 ?_
  | with_reducible refine st_ref ?_
  | with_reducible refine st_sl ?_
  | with_reducible refine st_pN ?_
  | with_reducible refine st_pS ?_
  | with_reducible refine st_pI ?_
  | (refine ⟨rfl, ?_⟩))
local macro_rules | `(tactic| cell_call) => `(tactic| first
  | with_reducible refine st_seq ?_
  | ((with_reducible refine' st_setF ?e ?_); (case e => intro x; (simp only [List.set_cons_zero, List.set_cons_succ]; exact rfl)))
  | with_reducible refine st_c ?_
  | ((with_reducible refine' st_var ?h ?_); (case h => exact rfl))
  | with_reducible refine st_op ?_
  | with_reducible refine st_I0 ?_
  | ((with_reducible refine' st_powL ?c ?e ?_); (case c => exact ⟨by decide, by decide, by decide⟩); (case e => (simp only [Int.reduceToNat, Int.reducePow]; exact rfl)))
  | ((with_reducible refine st_I ?h ?_); (case h => first | with_reducible assumption | (show (0 : Int) < _; omega) | exact ⟨by omega, by omega⟩ | exact .inl ⟨by omega, by omega⟩ | exact .inr ⟨by omega, by omega⟩ | exact ⟨by omega, by omega, by omega⟩))
  | with_reducible refine st_nil ?_
  | with_reducible refine st_cons ?_
  | with_reducible refine st_ret ?_
  | with_reducible refine st_call ?_
  | with_reducible refine st_cb ?_
  | with_reducible refine st_exb ?_
  | ((with_reducible refine' st_ixL ?h1 ?h2 ?_); (case h1 => kpt_turns); (case h2 => first | ((with_reducible apply at0); exact rfl) | ((with_reducible apply at1); exact rfl) | ((with_reducible apply at2); exact rfl) | ((with_reducible apply at3); exact rfl) | with_reducible assumption))
  | ((with_reducible refine' st_ixT ?h1 ?h2 ?_); (case h1 => kpt_turns); (case h2 => first | ((with_reducible apply at0); exact rfl) | ((with_reducible apply at1); exact rfl) | ((with_reducible apply at2); exact rfl) | with_reducible assumption))
  | ((with_reducible refine' st_ixP ?h1 ?h2 ?h3 ?h4 ?_); (case h1 => kpt_turns); (case h2 => (repeat constructor)); (case h3 => omega); (case h4 => (simp; omega)))
  | ((with_reducible refine' st_ixPT ?h1 ?h2 ?h3 ?h4 ?_); (case h1 => kpt_turns); (case h2 => (repeat constructor)); (case h3 => omega); (case h4 => (simp; omega)))
  | with_reducible refine st_tB ?_
  | with_reducible refine st_test ?_
  | with_reducible refine st_and ?_
  | with_reducible refine st_or ?_
  | with_reducible refine st_not ?_
  | with_reducible refine st_andV ?_
  | with_reducible refine st_orV ?_
  | with_reducible refine st_notV ?_
  | with_reducible refine st_chain ?_
  | with_reducible refine st_iT ?_
  | with_reducible refine st_iF ?_
  | with_reducible refine st_iNT ?_
  | with_reducible refine st_iNF ?_
  | with_reducible refine st_iRf ?_
  | with_reducible refine st_iNRf ?_
  | with_reducible refine st_asg ?_
  | ((with_reducible refine' st_parF ?e ?_); (case e => intro x y; (simp only [List.set_cons_zero, List.set_cons_succ]; exact rfl)))
  | with_reducible refine st_par2 ?_
  | with_reducible refine st_fst ?_
  | with_reducible refine st_jsE ?_
  | with_reducible refine st_js ?_
  | with_reducible refine st_fmt ?_
  | with_reducible refine st_joinK ?_
  | with_reducible refine st_strx ?_
  | ((with_reducible refine' st_par3F ?e ?_); (case e => intro x y z; (simp only [List.set_cons_zero, List.set_cons_succ]; exact rfl)))
  | with_reducible refine st_par3 ?_
  | ((with_reducible refine' st_augF ?h ?e ?_); (case h => exact rfl); (case e => intro x; (simp only [List.set_cons_zero, List.set_cons_succ]; exact rfl)))
  | with_reducible refine st_ipI ?_
  | with_reducible refine st_drop ?_
  | with_reducible refine st_next ?_
  | with_reducible refine st_un ?_
  | with_reducible refine st_U ?_
  | ((with_reducible refine' st_gNF ?e ?_); (case e => (simp only [List.set_cons_zero, List.set_cons_succ]; exact rfl)))
  | with_reducible refine st_gN ?_
  | ((with_reducible refine' st_gT ?h1 ?h2 ?_); (case h1 => kpt_turns); (case h2 => exact rfl))
  | with_reducible refine st_gC ?_
  | with_reducible refine st_gE ?_
  | with_reducible refine st_gS ?_
  | ((with_reducible refine' st_setL ?h1 ?h2 ?_); (case h1 => lcg_off); (case h2 => exact rfl))
  | with_reducible refine st_lst ?_
  | with_reducible refine st_tup ?_
  | ((with_reducible refine st_new ?h ?_); (case h => (simp; done)))
  | with_reducible refine st_callN ?_
  | with_reducible refine st_bm ?_
  | with_reducible refine st_bm0 ?_
  | ((with_reducible refine' st_tyL ?h ?_); (case h => kpt_turns))
  | ((with_reducible refine st_eq ?h ?_); (case h => exact rfl))
  | ((with_reducible refine st_ne ?h ?_); (case h => exact rfl))
  | with_reducible refine st_i1 ?_
  | with_reducible refine st_i2 ?_
  | with_reducible refine st_int ?_
  | with_reducible refine st_intb ?_
  | ((with_reducible refine' st_lenQ ?h ?_); (case h => kpt_turns))
  | ((with_reducible refine' st_lenQT ?h ?_); (case h => kpt_turns))
  | with_reducible refine st_yes ?_
  | with_reducible refine st_brk ?_
  | with_reducible refine st_cont ?_
  | with_reducible refine st_retN ?_
  | with_reducible refine st_forI ?_
  | with_reducible refine st_lcI ?_
  | with_reducible refine st_itL ?_
  | with_reducible refine st_itT ?_
  | with_reducible refine st_rng1 ?_
  | with_reducible refine st_rng2 ?_
  | with_reducible refine st_ref ?_
  | with_reducible refine st_sl ?_
  | with_reducible refine st_pN ?_
  | with_reducible refine st_pS ?_
  | with_reducible refine st_pI ?_
  | (refine ⟨rfl, ?_⟩)
  | with_reducible refine st_ifE ?_
  | with_reducible refine st_ifS ?_)
local macro_rules | `(tactic| kpf_close) => `(tactic| first
  | cell_call
  | refine st_iD (fun _ => ?_) (fun _ => ?_)
  | refine st_iND (fun _ => ?_) (fun _ => ?_)
  | refine st_iNB (fun _ => ?_) (fun _ => ?_)
  | refine st_iB (fun _ => ?_) (fun _ => ?_))
local macro_rules | `(tactic| k_places) => `(tactic| first
  | with_reducible refine isi_non_bool ?_
  | with_reducible refine isi_non_int ?_
  | with_reducible refine isi_non_str ?_
  | with_reducible refine isi_non_list ?_
  | with_reducible refine isi_non_tuple ?_
  | with_reducible refine isi_bl_bool ?_
  | with_reducible refine isi_bl_int ?_
  | with_reducible refine isi_bl_str ?_
  | with_reducible refine isi_bl_list ?_
  | with_reducible refine isi_bl_tuple ?_
  | with_reducible refine isi_int_bool ?_
  | with_reducible refine isi_int_int ?_
  | with_reducible refine isi_int_str ?_
  | with_reducible refine isi_int_list ?_
  | with_reducible refine isi_int_tuple ?_
  | with_reducible refine isi_str_bool ?_
  | with_reducible refine isi_str_int ?_
  | with_reducible refine isi_str_str ?_
  | with_reducible refine isi_str_list ?_
  | with_reducible refine isi_str_tuple ?_
  | ((with_reducible refine' isi_list_bool ?h ?_); (case h => kpt_turns))
  | ((with_reducible refine' isi_list_int ?h ?_); (case h => kpt_turns))
  | ((with_reducible refine' isi_list_str ?h ?_); (case h => kpt_turns))
  | ((with_reducible refine' isi_list_list ?h ?_); (case h => kpt_turns))
  | ((with_reducible refine' isi_list_tuple ?h ?_); (case h => kpt_turns))
  | ((with_reducible refine' isi_tuple_bool ?h ?_); (case h => kpt_turns))
  | ((with_reducible refine' isi_tuple_int ?h ?_); (case h => kpt_turns))
  | ((with_reducible refine' isi_tuple_str ?h ?_); (case h => kpt_turns))
  | ((with_reducible refine' isi_tuple_list ?h ?_); (case h => kpt_turns))
  | ((with_reducible refine' isi_tuple_tuple ?h ?_); (case h => kpt_turns)))
section
variable {P : Program} {w : World} {K : PySem.W.Frag} {mg : Str → Option Value} {base : Heap}
/-- the dates of a step that is repeated -/
def rst (s : Dt) (k : Int) : Nat → Dt
  | 0 => s
  | j + 1 => mvS (rst s k j) k
def rsg (D : Addr) (s : Dt) (k : Int) : Nat → L2.St
  | 0 => [some (.ref D), some (.int k), none, none]
  | j + 1 => [some (.ref D), some (.int k), some (.int (rst s k j).1), some (.int (rst s k j).2)]
abbrev envR (n f : Addr) (cd : Value) : Env := envOfC "renewal_dates" (defScope s_renewal_dates) n f cd
def Dtup (D : Addr) (s : Dt) (h : Heap) : Prop := (dT s).length ≤ sizeLine ∧ ∃ its : List Value, Vals (dT s) its ∧ IsTup h D its.toArray
def rgd (base : Heap) (outer : List Env) (n F : Nat) (os : OsState) (f : Addr) (cd : Value) (D : Addr) (s : Dt) (k : Int) : Gn.Gd where
  base := base
  outer := outer
  n := n
  F := F
  os := os
  Own := fun j h => Gn.Lc N_renewal_dates (envR n f cd) (rsg D s k j) h
  Nd := Dtup D s
  Jt := fun j v h h1 => ∃ t, v = .ref t ∧ h.get? t = none ∧ Dtup t (rst s k j) h1
  Ed := fun _ _ _ => False
def ndR' (D : Addr) (s : Dt) : Addr → Option HO := fun b => if b = D then some (.tup (dT s)) else none
abbrev gxR (P : Program) (w : World) (K : PySem.W.Frag) (mg : Str → Option Value) (base : Heap) (outer : List Env) (n f : Addr) (cd : Value) (A : Around) (D : Addr) (s : Dt) (sw : Shared) : Cx :=
  Gn.gx P w K mg base N_renewal_dates (envR n f cd) outer A { sw with heap := Gn.cut n sw.heap } (Gn.Hg n base outer (ndR' D s) sw.heap)
theorem Hg_D {base : Heap} {outer : List Env} {n D : Addr} {s : Dt} {h : Heap} (hD : ¬ (D = n ∨ (base.get? D).isSome = true ∨ D ∈ frs outer)) (t : Dtup D s h) : ∃ o, Gn.Hg n base outer (ndR' D s) h D = some (.frz o (.tup (dT s))) := by
  obtain ⟨_, its, _, o, e, _⟩ := t
  refine ⟨o, ?_⟩
  rw [Gn.Hg_some e hD]
  unfold ndR'
  rw [if_pos rfl]
  rfl
theorem inv_R {outer : List Env} {n f : Addr} {cd : Value} {A : Around} {D : Addr} {s : Dt} {σ : L2.St} {sw : Shared} (G : Gn.GCtx K mg base (envR n f cd) outer A n) (W : Gn.Wk base outer n sw) (L : Gn.Lc N_renewal_dates (envR n f cd) σ sw.heap) (hl : σ.length = 4) (t : Dtup D s sw.heap) :
    Inv (gxR P w K mg base outer n f cd A D s sw) [] σ (Gn.Hg n base outer (ndR' D s) sw.heap) sw := by
  refine Gn.gwake G W L hl fun b u e => ?_
  unfold ndR' at e
  split at e
  · rename_i hb
    cases e
    rw [hb]
    exact t
  · cases e
theorem G_true {X : Cx} {j : Nat} {pos : Pos} : Gk.PE X (.Constant (.bool true) j pos) (tC (.bl true)) := fun _ _ _ H _ I q => Constant_bool ⟨rfl, .bl true, H, I, rfl, q⟩
/-- the loop of the generator, from its head -/
theorem loop_R (T : Txt K mg) {outer : List Env} {n f : Addr} {cd : Value} {A1 : Around} {D : Addr} {s : Dt} {k : Int} {F : Nat} {os : OsState} (hr : Room 5 (A1.deeper (envR n f cd))) (G : Gn.GCtx K mg base (envR n f cd) outer (A1.deeper (envR n f cd)) n)
    (hD : ¬ (D = n ∨ (base.get? D).isSome = true ∨ D ∈ frs outer)) {tj : Nat} {tp : Pos} {body : List Stmt} {wp : Pos} (hb : (defBody s_renewal_dates)[3]? = some (.While (.Constant (.bool true) tj tp) body [] wp)) {c : Code} (hc : A1.over c [] = A1.deeper (envR n f cd))
    {kk : Result → Sem PySem.Fin} {p : Pos} : ∀ (m j : Nat), m + 1 + j = F → ∀ (sw s' : Shared) (H : Hp), Gn.Wk base outer n sw → sw.os = os → Inv (gxR P w K mg base outer n f cd (A1.deeper (envR n f cd)) D s sw) [] (rsg D s k (j + 1)) H s' → s'.gens = sw.gens →
    Seg (model P w) A1 (rgd base outer n F os f cd D s k).R (rgd base outer n F os f cd D s k).Y (m + 1) sw (.whileLoop (.Constant (.bool true) tj tp) body [] (envR n f cd)) ((model P w).den (.whileLoop (.Constant (.bool true) tj tp) body [] (envR n f cd))) [.ret kk none false [] c p []] s' := by
  cases hb
  have ho : ∀ (b : List Stmt) (j : Nat) (q : Pos), A1.over (.whileLoop (.Constant (.bool true) j q) b [] (envR n f cd)) [.ret kk none false [] c p []] = A1.deeper (envR n f cd) := fun _ _ _ => (GenW.over_loop rfl rfl).trans hc
  -- what is said at a yield
  have said : ∀ (m j : Nat), F - 1 - m = j → ∀ (sw s' s1 : Shared) (H : Hp) (t : Addr) (kap : Resume → Shared → Prop), Gn.Wk base outer n sw → Inv (gxR P w K mg base outer n f cd (A1.deeper (envR n f cd)) D s sw) [] (rsg D s k (j + 1)) H s' → s'.gens = sw.gens →
      s1.gens = s'.gens → Inv (gxR P w K mg base outer n f cd (A1.deeper (envR n f cd)) D s sw) [] (rsg D s k (j + 1)) (upd H t (.tup (dT (rst s k j)))) s1 → H t = none →
      (j + 1 < F → ∀ s2, (rgd base outer n F os f cd D s k).Rd (j + 1) s2 → kap (.send .none) s2) → (rgd base outer n F os f cd D s k).Y m sw (.ref t) s1 kap := by
    intro m j ej sw s' s1 H t kap W I eg g1 I1 nt hk
    have tu : upd H t (.tup (dT (rst s k j))) t = some (.tup (dT (rst s k j))) := upd_same
    refine ⟨⟨Gn.gkeep G W I1, I1.os, I1.bare, g1.trans eg⟩, ?_, ?_, ?_⟩
    · show Gn.Lc _ _ (rsg D s k (F - 1 - m + 1)) _
      rw [ej]
      exact I1.loc
    · refine ⟨t, rfl, ?_, ?_⟩
      · cases q : sw.heap.get? t with
        | none => rfl
        | some o =>
          exfalso
          by_cases c : t = n ∨ (base.get? t).isSome = true ∨ t ∈ frs outer
          · rcases c with c | c | c
            · have z := I1.free
              rw [show (gxR P w K mg base outer n f cd (A1.deeper (envR n f cd)) D s sw).env.locals = n from rfl, ← c, tu] at z
              cases z
            · obtain ⟨ob, eb⟩ := Option.isSome_iff_exists.mp c
              have z := (I1.bs t ob eb).2
              rw [tu] at z
              cases z
            · have z := I1.stkFree t (by
                show t ∈ frs (envR n f cd :: outer)
                unfold frs
                rw [List.filterMap_cons]
                exact List.mem_cons_of_mem _ c)
              rw [tu] at z
              cases z
          · have z := I.base.frzs t _ _ (Gn.Hg_some (nd := ndR' D s) q c)
            rw [nt] at z
            cases z
      · show Dtup t (rst s k (F - 1 - m)) _
        rw [ej]
        exact I1.hok t _ tu
    · show F - 1 - m + 1 < F → ∀ s2, (rgd base outer n F os f cd D s k).Rd (F - 1 - m + 1) s2 → kap (.send .none) s2
      rw [ej]
      exact hk
  intro m
  induction m with
  | zero =>
    intro j hj sw s' H W eo I eg
    refine Gn.seg_true (X := gxR P w K mg base outer n f cd (A1.deeper (envR n f cd)) D s sw) (ho _ _ _) ?_
    refine seg_execs_cons ?_
    refine Gn.seg_yld (X := gxR P w K mg base outer n f cd (A1.deeper (envR n f cd)) D s sw) (Q := fun v H1 => ∃ t, v = .ref t ∧ H t = none ∧ H1 = upd H t (.tup (dT (rst s k j)))) (Gk.pe_call (okG_date_in T) (hr.mono (by decide)) rfl T.g_date_in T.F_date_in.kp (b_date_in T) .nil pass0 (Gk.pa_cons (Gk.pv 2) (Gk.pa_cons (Gk.pv 3) Gk.pa_nil))) (ho _ _ _) (fun _ _ z => z) rfl rfl rfl I ?q ?k
    case q =>
      unfold rsg
      repeat cell_call
      exact ⟨_, _, rfl, fun t nt => ⟨t, rfl, nt, rfl⟩⟩
    case k =>
      intro u s1 g1 he kap hk
      obtain ⟨v, H1, I1, rv, t, rfl, nt, rfl⟩ := he
      obtain rfl : u = Value.ref t := rv
      exact said 0 j (by omega) sw s' s1 H t kap W I eg g1 I1 nt fun z => absurd z (by omega)
  | succ m ih =>
    intro j hj sw s' H W eo I eg
    refine Gn.seg_true (X := gxR P w K mg base outer n f cd (A1.deeper (envR n f cd)) D s sw) (ho _ _ _) ?_
    refine seg_execs_cons ?_
    refine Gn.seg_yld (X := gxR P w K mg base outer n f cd (A1.deeper (envR n f cd)) D s sw) (Q := fun v H1 => ∃ t, v = .ref t ∧ H t = none ∧ H1 = upd H t (.tup (dT (rst s k j)))) (Gk.pe_call (okG_date_in T) (hr.mono (by decide)) rfl T.g_date_in T.F_date_in.kp (b_date_in T) .nil pass0 (Gk.pa_cons (Gk.pv 2) (Gk.pa_cons (Gk.pv 3) Gk.pa_nil))) (ho _ _ _) (fun _ _ z => z) rfl rfl rfl I ?q ?k
    case q =>
      unfold rsg
      repeat cell_call
      exact ⟨_, _, rfl, fun t nt => ⟨t, rfl, nt, rfl⟩⟩
    case k =>
      intro u s1 g1 he kap hk
      obtain ⟨v, H1, I1, rv, t, rfl, nt, rfl⟩ := he
      obtain rfl : u = Value.ref t := rv
      refine said (m + 1) j (by omega) sw s' s1 H t kap W I eg g1 I1 nt fun hj2 s2 rd => hk s2 ?_
      obtain ⟨W2, os2, own2, nd2⟩ := rd
      have I2 := inv_R (P := P) (w := w) (K := K) (mg := mg) G W2 own2 rfl nd2
      refine Gn.seg_sts (X := gxR P w K mg base outer n f cd (A1.deeper (envR n f cd)) D s s2) (D := { nx := fun σ H => σ = rsg D s k (j + 2), rt := fun _ _ => False })
        (Gk.pss_cons (Gk.ps_set (i := 2) sc_renewal_dates.nd rfl (Or.inl rfl) (Gk.pe_op Gk.op_add (Gk.pv 2) (Gk.pv 1))) (Gk.pss_one (Gk.ps_set (i := 3) sc_renewal_dates.nd rfl (Or.inl rfl) (Gk.pe_callB (Gk.call_minI rfl) (by rfl) T.b_min (by decide +kernel) (Gk.pa_cons (Gk.pv 3) (Gk.pa_cons (Gk.pe_call (okG_length_of T) (hr.mono (by decide)) rfl T.g_length_of T.F_length_of.kp (b_length_of T) .nil pass0 (Gk.pa_cons (Gk.pv 2) Gk.pa_nil)) Gk.pa_nil))))))
        (ho _ _ _) (fun _ _ z => z) I2 ?_ fun fl s3 g3 h3 => ?_
      · clear said ih hk ho
        unfold rsg
        repeat cell_call
        refine ⟨_, rfl, ?_⟩
        repeat cell_call
        show _ = _
        rfl
      · cases fl with
        | next =>
          obtain ⟨σ3, H3, I3, rfl⟩ := h3
          exact seg_again rfl (ih (j + 1) (by omega) s2 s3 H3 W2 os2 I3 g3)
        | brk =>
          obtain ⟨_, _, _, z⟩ := h3
          exact z.elim
        | cont =>
          obtain ⟨_, _, _, z⟩ := h3
          exact z.elim
        | ret u =>
          obtain ⟨_, _, _, _, _, z⟩ := h3
          exact z.elim
/-- from its beginning -/
theorem begin_R (T : Txt K mg) {outer : List Env} {n f : Addr} {cd : Value} {A1 : Around} {D : Addr} {s : Dt} {k : Int} {F : Nat} {os : OsState} (hr : Room 5 (A1.deeper (envR n f cd))) (G : Gn.GCtx K mg base (envR n f cd) outer (A1.deeper (envR n f cd)) n)
    (hD : ¬ (D = n ∨ (base.get? D).isSome = true ∨ D ∈ frs outer)) (hF : 0 < F) (ok : okS s) {s2 : Shared} (rd : (rgd base outer n F os f cd D s k).Rd 0 s2) :
    Seg (model P w) A1 (rgd base outer n F os f cd D s k).R (rgd base outer n F os f cd D s k).Y F s2 (.func (defBody s_renewal_dates) (envR n f cd)) ((model P w).den (.func (defBody s_renewal_dates) (envR n f cd))) [] s2 := by
  obtain ⟨W, eo, own, nd⟩ := rd
  have I := inv_R (P := P) (w := w) (K := K) (mg := mg) G W own rfl nd
  obtain ⟨oD, eD⟩ := Hg_D hD nd
  have hS : SqT K (Gn.Hg n base outer (ndR' D s) s2.heap) D (dT s) := .inl (.inr ⟨oD, eD⟩)
  have ho : A1.over (.func (defBody s_renewal_dates) (envR n f cd)) [] = A1.deeper (envR n f cd) := GenW.over_func
  refine seg_func ?_
  refine seg_execs_cons ?_
  refine Gn.seg_st (X := gxR P w K mg base outer n f cd (A1.deeper (envR n f cd)) D s s2) (D := { nx := fun σ H => σ = rsg D s k 0 ∧ H = Gn.Hg n base outer (ndR' D s) s2.heap, rt := fun _ _ => False })
    (Gk.ps_expr (Gk.pe_call (okG_check_date T) (hr.mono (by decide)) rfl T.g_check_date T.F_check_date.kp (b_check_date T) .nil pass0 (Gk.pa_cons (Gk.pv 0) Gk.pa_nil))) ho (fun _ _ z => z) I ?_ fun fl s3 g3 h3 => ?_
  · unfold rsg
    repeat cell_call
    refine ⟨D, _, _, _, rfl, hS, okS_ok ok, ?_⟩
    repeat cell_call
    exact rfl
  cases fl with
  | brk => exact (let ⟨_, _, _, z⟩ := h3; z.elim)
  | cont => exact (let ⟨_, _, _, z⟩ := h3; z.elim)
  | ret u => exact (let ⟨_, _, _, _, _, z⟩ := h3; z.elim)
  | next =>
  obtain ⟨σ3, H3, I3, rfl, rfl⟩ := h3
  refine seg_execs_cons ?_
  refine Gn.seg_st (X := gxR P w K mg base outer n f cd (A1.deeper (envR n f cd)) D s s2) (D := { nx := fun σ H => σ = [some (.ref D), some (.int k), some (.int s.1), none] ∧ H = Gn.Hg n base outer (ndR' D s) s2.heap, rt := fun _ _ => False })
    (Gk.ps_set (i := 2) sc_renewal_dates.nd rfl (Or.inl rfl) (Gk.pe_call (okG_month_number T) (hr.mono (by decide)) rfl T.g_month_number T.F_month_number.kp (b_month_number T) .nil pass0 (Gk.pa_cons (Gk.pv 0) Gk.pa_nil))) ho (fun _ _ z => z) I3 ?_ fun fl s4 g4 h4 => ?_
  · unfold rsg
    repeat cell_call
    refine ⟨D, _, _, _, rfl, hS, ?_⟩
    rw [num_eq]
    repeat cell_call
    exact rfl
  cases fl with
  | brk => exact (let ⟨_, _, _, z⟩ := h4; z.elim)
  | cont => exact (let ⟨_, _, _, z⟩ := h4; z.elim)
  | ret u => exact (let ⟨_, _, _, _, _, z⟩ := h4; z.elim)
  | next =>
  obtain ⟨σ4, H4, I4, rfl, rfl⟩ := h4
  refine seg_execs_cons ?_
  refine Gn.seg_st (X := gxR P w K mg base outer n f cd (A1.deeper (envR n f cd)) D s s2) (D := { nx := fun σ H => σ = rsg D s k 1 ∧ H = Gn.Hg n base outer (ndR' D s) s2.heap, rt := fun _ _ => False })
    (Gk.ps_set (i := 3) sc_renewal_dates.nd rfl (Or.inl rfl) (Gk.pe_ix (show Gk.IxR _ (rIxT K) from Gk.ix_tup) (Gk.pv 0) Gk.pe_int (fun _ _ => rfl))) ho (fun _ _ z => z) I4 ?_ fun fl s5 g5 h5 => ?_
  · unfold dT at hS
    repeat cell_call
    exact rfl
  cases fl with
  | brk => exact (let ⟨_, _, _, z⟩ := h5; z.elim)
  | cont => exact (let ⟨_, _, _, z⟩ := h5; z.elim)
  | ret u => exact (let ⟨_, _, _, _, _, z⟩ := h5; z.elim)
  | next =>
  obtain ⟨σ5, H5, I5, rfl, rfl⟩ := h5
  refine seg_execs_cons ?_
  refine seg_While fun p => ?_
  obtain ⟨m, rfl⟩ : ∃ m, F = m + 1 := ⟨F - 1, by omega⟩
  exact loop_R T hr G hD rfl ho m 0 (by omega) s2 s5 _ W eo I5 (g5.trans (g4.trans g3))

end
end Mc
namespace Mc
open PySem PySem.Spec PyProof.Rows L2
local macro_rules | `(tactic| lcg_src) => `(tactic| first
  | with_reducible assumption
  | ((with_reducible apply Ne.symm); with_reducible assumption)
  | ((with_reducible apply ne_nf); (with_reducible assumption); lcg_off)
  | ((with_reducible apply Ne.symm); (with_reducible apply ne_nf); (with_reducible assumption); lcg_off))
local macro_rules | `(tactic| lcg_off) => `(tactic| first
  | with_reducible assumption
  | (with_reducible exact upd_same)
  | ((with_reducible apply hp_ne); lcg_src; lcg_off)
  | ((with_reducible apply hp_same); (with_reducible assumption); lcg_off)
  | ((with_reducible apply hp_frm); (with_reducible assumption); lcg_src; lcg_off)
  | ((with_reducible apply hp_frm2); (with_reducible assumption); lcg_src; lcg_src; lcg_off)
  | assumption)
local macro_rules | `(tactic| kpt_turns) => `(tactic| first
  | with_reducible assumption
  | ((with_reducible apply SqL.of); lcg_off)
  | ((with_reducible apply SqT.of); lcg_off)
  | ((with_reducible apply Frm.seq); (with_reducible assumption); lcg_src; kpt_turns)
  | ((with_reducible apply Frm.tup); (with_reducible assumption); lcg_src; kpt_turns)
  | ((with_reducible apply Frm2.seq); (with_reducible assumption); lcg_src; lcg_src; kpt_turns)
  | ((with_reducible apply Frm2.tup); (with_reducible assumption); lcg_src; lcg_src; kpt_turns)
  | ((with_reducible apply L2.Same.seq); (with_reducible assumption); kpt_turns)
  | ((with_reducible apply Same.tup); (with_reducible assumption); kpt_turns)
  | assumption)
local macro_rules | `(tactic| k_memK) => `(tactic| first
  | with_reducible exact Frm.refl _
  | with_reducible assumption
  | ((with_reducible apply Frm.trN); (with_reducible assumption); k_memK)
  | ((with_reducible apply Frm.trU); k_memK)
  | ((with_reducible apply Frm.trM); (with_reducible assumption); k_memK)
  | ((with_reducible apply Frm.tr); (with_reducible assumption); k_memK)
  | ((with_reducible apply Frm.trS); (with_reducible assumption); k_memK)
  | with_reducible exact Frm2.refl _
  | ((with_reducible apply Frm2.trN); (with_reducible assumption); k_memK)
  | ((with_reducible apply Frm2.trU); k_memK)
  | ((with_reducible apply Frm2.trV); k_memK)
  | ((with_reducible apply Frm2.trM); (with_reducible assumption); k_memK)
  | ((with_reducible apply Frm2.tr); (with_reducible assumption); k_memK)
  | ((with_reducible apply Frm2.trS); (with_reducible assumption); k_memK))
local macro_rules | `(tactic| k_allIn) => `(tactic| first
  | with_reducible exact L2.Same.refl _
  | with_reducible assumption
  | ((with_reducible apply same_trN); (with_reducible assumption); k_allIn)
  | ((with_reducible apply same_trU); (with_reducible assumption); k_allIn)
  | ((with_reducible apply same_tr); (with_reducible assumption); k_allIn))
local macro_rules | `(tactic| k_ownIn) => `(tactic| first
  | with_reducible refine st_seq ?_
  | ((with_reducible refine' st_setF ?e ?_); (case e => intro x; (simp only [List.set_cons_zero, List.set_cons_succ]; exact rfl)))
  | with_reducible refine st_c ?_
  | ((with_reducible refine' st_var ?h ?_); (case h => exact rfl))
  | with_reducible refine st_op ?_
  | with_reducible refine st_I0 ?_
  | ((with_reducible refine' st_powL ?c ?e ?_); (case c => exact ⟨by decide, by decide, by decide⟩); (case e => (simp only [Int.reduceToNat, Int.reducePow]; exact rfl)))
  | ((with_reducible refine st_I ?h ?_); (case h => first | with_reducible assumption | (show (0 : Int) < _; omega) | exact ⟨by omega, by omega⟩ | exact .inl ⟨by omega, by omega⟩ | exact .inr ⟨by omega, by omega⟩ | exact ⟨by omega, by omega, by omega⟩))
  | with_reducible refine st_nil ?_
  | with_reducible refine st_cons ?_
  | with_reducible refine st_ret ?_
  | with_reducible refine st_call ?_
  | with_reducible refine st_cb ?_
  | with_reducible refine st_exb ?_
  | ((with_reducible refine' st_ixL ?h1 ?h2 ?_); (case h1 => kpt_turns); (case h2 => first | ((with_reducible apply at0); exact rfl) | ((with_reducible apply at1); exact rfl) | ((with_reducible apply at2); exact rfl) | ((with_reducible apply at3); exact rfl) | with_reducible assumption))
  | ((with_reducible refine' st_ixT ?h1 ?h2 ?_); (case h1 => kpt_turns); (case h2 => first | ((with_reducible apply at0); exact rfl) | ((with_reducible apply at1); exact rfl) | ((with_reducible apply at2); exact rfl) | with_reducible assumption))
  | ((with_reducible refine' st_ixP ?h1 ?h2 ?h3 ?h4 ?_); (case h1 => kpt_turns); (case h2 => (repeat constructor)); (case h3 => omega); (case h4 => (simp; omega)))
  | ((with_reducible refine' st_ixPT ?h1 ?h2 ?h3 ?h4 ?_); (case h1 => kpt_turns); (case h2 => (repeat constructor)); (case h3 => omega); (case h4 => (simp; omega)))
  | with_reducible refine st_tB ?_
  | with_reducible refine st_test ?_
  | with_reducible refine st_and ?_
  | with_reducible refine st_or ?_
  | with_reducible refine st_not ?_
  | with_reducible refine st_andV ?_
  | with_reducible refine st_orV ?_
  | with_reducible refine st_notV ?_
  | with_reducible refine st_chain ?_
  | with_reducible refine st_iT ?_
  | with_reducible refine st_iF ?_
  | with_reducible refine st_iNT ?_
  | with_reducible refine st_iNF ?_
  | with_reducible refine st_iRf ?_
  | with_reducible refine st_iNRf ?_
  | with_reducible refine st_asg ?_
  | ((with_reducible refine' st_parF ?e ?_); (case e => intro x y; (simp only [List.set_cons_zero, List.set_cons_succ]; exact rfl)))
  | with_reducible refine st_par2 ?_
  | with_reducible refine st_fst ?_
  | with_reducible refine st_jsE ?_
  | with_reducible refine st_js ?_
  | with_reducible refine st_fmt ?_
  | with_reducible refine st_joinK ?_
  | with_reducible refine st_strx ?_
  | ((with_reducible refine' st_par3F ?e ?_); (case e => intro x y z; (simp only [List.set_cons_zero, List.set_cons_succ]; exact rfl)))
  | with_reducible refine st_par3 ?_
  | ((with_reducible refine' st_augF ?h ?e ?_); (case h => exact rfl); (case e => intro x; (simp only [List.set_cons_zero, List.set_cons_succ]; exact rfl)))
  | with_reducible refine st_ipI ?_
  | with_reducible refine st_drop ?_
  | with_reducible refine st_next ?_
  | with_reducible refine st_un ?_
  | with_reducible refine st_U ?_
  | ((with_reducible refine' st_gNF ?e ?_); (case e => (simp only [List.set_cons_zero, List.set_cons_succ]; exact rfl)))
  | with_reducible refine st_gN ?_
  | ((with_reducible refine' st_gT ?h1 ?h2 ?_); (case h1 => kpt_turns); (case h2 => exact rfl))
  | with_reducible refine st_gC ?_
  | with_reducible refine st_gE ?_
  | with_reducible refine st_gS ?_
  | ((with_reducible refine' st_setL ?h1 ?h2 ?_); (case h1 => lcg_off); (case h2 => exact rfl))
  | with_reducible refine st_lst ?_
  | with_reducible refine st_tup ?_
  | ((with_reducible refine st_new ?h ?_); (case h => (simp; done)))
  | with_reducible refine st_callN ?_
  | with_reducible refine st_bm ?_
  | with_reducible refine st_bm0 ?_
  | ((with_reducible refine' st_tyL ?h ?_); (case h => kpt_turns))
  | ((with_reducible refine st_eq ?h ?_); (case h => exact rfl))
  | ((with_reducible refine st_ne ?h ?_); (case h => exact rfl))
  | with_reducible refine st_i1 ?_
  | with_reducible refine st_i2 ?_
  | with_reducible refine st_int ?_
  | with_reducible refine st_intb ?_
  | ((with_reducible refine' st_lenQ ?h ?_); (case h => kpt_turns))
  | ((with_reducible refine' st_lenQT ?h ?_); (case h => kpt_turns))
  | with_reducible refine st_yes ?_
  | with_reducible refine st_brk ?_
  | with_reducible refine st_cont ?_
  | with_reducible refine st_retN ?_
  | with_reducible refine st_forI ?_
  | with_reducible refine st_lcI ?_
  | with_reducible refine st_itL ?_
  | with_reducible refine st_itT ?_
  | with_reducible refine st_rng1 ?_
  | with_reducible refine st_rng2 ?_
  | with_reducible refine st_ref ?_
  | with_reducible refine st_sl ?_
  | with_reducible refine st_pN ?_
  | with_reducible refine st_pS ?_
  | with_reducible refine st_pI ?_
  | (refine ⟨rfl, ?_⟩))
local macro_rules | `(tactic| cell_call) => `(tactic| first
  | with_reducible refine st_seq ?_
  | ((with_reducible refine' st_setF ?e ?_); (case e => intro x; (simp only [List.set_cons_zero, List.set_cons_succ]; exact rfl)))
  | with_reducible refine st_c ?_
  | ((with_reducible refine' st_var ?h ?_); (case h => exact rfl))
  | with_reducible refine st_op ?_
  | with_reducible refine st_I0 ?_
  | ((with_reducible refine' st_powL ?c ?e ?_); (case c => exact ⟨by decide, by decide, by decide⟩); (case e => (simp only [Int.reduceToNat, Int.reducePow]; exact rfl)))
  | ((with_reducible refine st_I ?h ?_); (case h => first | with_reducible assumption | (show (0 : Int) < _; omega) | exact ⟨by omega, by omega⟩ | exact .inl ⟨by omega, by omega⟩ | exact .inr ⟨by omega, by omega⟩ | exact ⟨by omega, by omega, by omega⟩))
  | with_reducible refine st_nil ?_
  | with_reducible refine st_cons ?_
  | with_reducible refine st_ret ?_
  | with_reducible refine st_call ?_
  | with_reducible refine st_cb ?_
  | with_reducible refine st_exb ?_
  | ((with_reducible refine' st_ixL ?h1 ?h2 ?_); (case h1 => kpt_turns); (case h2 => first | ((with_reducible apply at0); exact rfl) | ((with_reducible apply at1); exact rfl) | ((with_reducible apply at2); exact rfl) | ((with_reducible apply at3); exact rfl) | with_reducible assumption))
  | ((with_reducible refine' st_ixT ?h1 ?h2 ?_); (case h1 => kpt_turns); (case h2 => first | ((with_reducible apply at0); exact rfl) | ((with_reducible apply at1); exact rfl) | ((with_reducible apply at2); exact rfl) | with_reducible assumption))
  | ((with_reducible refine' st_ixP ?h1 ?h2 ?h3 ?h4 ?_); (case h1 => kpt_turns); (case h2 => (repeat constructor)); (case h3 => omega); (case h4 => (simp; omega)))
  | ((with_reducible refine' st_ixPT ?h1 ?h2 ?h3 ?h4 ?_); (case h1 => kpt_turns); (case h2 => (repeat constructor)); (case h3 => omega); (case h4 => (simp; omega)))
  | with_reducible refine st_tB ?_
  | with_reducible refine st_test ?_
  | with_reducible refine st_and ?_
  | with_reducible refine st_or ?_
  | with_reducible refine st_not ?_
  | with_reducible refine st_andV ?_
  | with_reducible refine st_orV ?_
  | with_reducible refine st_notV ?_
  | with_reducible refine st_chain ?_
  | with_reducible refine st_iT ?_
  | with_reducible refine st_iF ?_
  | with_reducible refine st_iNT ?_
  | with_reducible refine st_iNF ?_
  | with_reducible refine st_iRf ?_
  | with_reducible refine st_iNRf ?_
  | with_reducible refine st_asg ?_
  | ((with_reducible refine' st_parF ?e ?_); (case e => intro x y; (simp only [List.set_cons_zero, List.set_cons_succ]; exact rfl)))
  | with_reducible refine st_par2 ?_
  | with_reducible refine st_fst ?_
  | with_reducible refine st_jsE ?_
  | with_reducible refine st_js ?_
  | with_reducible refine st_fmt ?_
  | with_reducible refine st_joinK ?_
  | with_reducible refine st_strx ?_
  | ((with_reducible refine' st_par3F ?e ?_); (case e => intro x y z; (simp only [List.set_cons_zero, List.set_cons_succ]; exact rfl)))
  | with_reducible refine st_par3 ?_
  | ((with_reducible refine' st_augF ?h ?e ?_); (case h => exact rfl); (case e => intro x; (simp only [List.set_cons_zero, List.set_cons_succ]; exact rfl)))
  | with_reducible refine st_ipI ?_
  | with_reducible refine st_drop ?_
  | with_reducible refine st_next ?_
  | with_reducible refine st_un ?_
  | with_reducible refine st_U ?_
  | ((with_reducible refine' st_gNF ?e ?_); (case e => (simp only [List.set_cons_zero, List.set_cons_succ]; exact rfl)))
  | with_reducible refine st_gN ?_
  | ((with_reducible refine' st_gT ?h1 ?h2 ?_); (case h1 => kpt_turns); (case h2 => exact rfl))
  | with_reducible refine st_gC ?_
  | with_reducible refine st_gE ?_
  | with_reducible refine st_gS ?_
  | ((with_reducible refine' st_setL ?h1 ?h2 ?_); (case h1 => lcg_off); (case h2 => exact rfl))
  | with_reducible refine st_lst ?_
  | with_reducible refine st_tup ?_
  | ((with_reducible refine st_new ?h ?_); (case h => (simp; done)))
  | with_reducible refine st_callN ?_
  | with_reducible refine st_bm ?_
  | with_reducible refine st_bm0 ?_
  | ((with_reducible refine' st_tyL ?h ?_); (case h => kpt_turns))
  | ((with_reducible refine st_eq ?h ?_); (case h => exact rfl))
  | ((with_reducible refine st_ne ?h ?_); (case h => exact rfl))
  | with_reducible refine st_i1 ?_
  | with_reducible refine st_i2 ?_
  | with_reducible refine st_int ?_
  | with_reducible refine st_intb ?_
  | ((with_reducible refine' st_lenQ ?h ?_); (case h => kpt_turns))
  | ((with_reducible refine' st_lenQT ?h ?_); (case h => kpt_turns))
  | with_reducible refine st_yes ?_
  | with_reducible refine st_brk ?_
  | with_reducible refine st_cont ?_
  | with_reducible refine st_retN ?_
  | with_reducible refine st_forI ?_
  | with_reducible refine st_lcI ?_
  | with_reducible refine st_itL ?_
  | with_reducible refine st_itT ?_
  | with_reducible refine st_rng1 ?_
  | with_reducible refine st_rng2 ?_
  | with_reducible refine st_ref ?_
  | with_reducible refine st_sl ?_
  | with_reducible refine st_pN ?_
  | with_reducible refine st_pS ?_
  | with_reducible refine st_pI ?_
  | (refine ⟨rfl, ?_⟩)
  | with_reducible refine st_ifE ?_
  | with_reducible refine st_ifS ?_)
local macro_rules | `(tactic| kpf_close) => `(tactic| first
  | cell_call
  | refine st_iD (fun _ => ?_) (fun _ => ?_)
  | refine st_iND (fun _ => ?_) (fun _ => ?_)
  | refine st_iNB (fun _ => ?_) (fun _ => ?_)
  | refine st_iB (fun _ => ?_) (fun _ => ?_))
local macro_rules | `(tactic| k_places) => `(tactic| first
  | with_reducible refine isi_non_bool ?_
  | with_reducible refine isi_non_int ?_
  | with_reducible refine isi_non_str ?_
  | with_reducible refine isi_non_list ?_
  | with_reducible refine isi_non_tuple ?_
  | with_reducible refine isi_bl_bool ?_
  | with_reducible refine isi_bl_int ?_
  | with_reducible refine isi_bl_str ?_
  | with_reducible refine isi_bl_list ?_
  | with_reducible refine isi_bl_tuple ?_
  | with_reducible refine isi_int_bool ?_
  | with_reducible refine isi_int_int ?_
  | with_reducible refine isi_int_str ?_
  | with_reducible refine isi_int_list ?_
  | with_reducible refine isi_int_tuple ?_
  | with_reducible refine isi_str_bool ?_
  | with_reducible refine isi_str_int ?_
  | with_reducible refine isi_str_str ?_
  | with_reducible refine isi_str_list ?_
  | with_reducible refine isi_str_tuple ?_
  | ((with_reducible refine' isi_list_bool ?h ?_); (case h => kpt_turns))
  | ((with_reducible refine' isi_list_int ?h ?_); (case h => kpt_turns))
  | ((with_reducible refine' isi_list_str ?h ?_); (case h => kpt_turns))
  | ((with_reducible refine' isi_list_list ?h ?_); (case h => kpt_turns))
  | ((with_reducible refine' isi_list_tuple ?h ?_); (case h => kpt_turns))
  | ((with_reducible refine' isi_tuple_bool ?h ?_); (case h => kpt_turns))
  | ((with_reducible refine' isi_tuple_int ?h ?_); (case h => kpt_turns))
  | ((with_reducible refine' isi_tuple_str ?h ?_); (case h => kpt_turns))
  | ((with_reducible refine' isi_tuple_list ?h ?_); (case h => kpt_turns))
  | ((with_reducible refine' isi_tuple_tuple ?h ?_); (case h => kpt_turns)))
section
variable {P : Program} {w : World} {K : PySem.W.Frag} {mg : Str → Option Value} {base : Heap}
theorem plain_R : Gn.Plain (defScope s_renewal_dates) := by
  unfold Gn.Plain
  decide +kernel
/-- what a call of renewal_dates gives: the generator of d, not begun -/
def MadeR (X : Cx) (pins : List (Addr × Obj)) (σ : L2.St) (H : Hp) (A1 : Around) (D : Addr) (s : Dt) (k : Int) (F : Nat) (s₁ : Shared) (u : Value) (s' : Shared) : Prop :=
  ∃ (a n f : Addr) (cd : Value), u = .ref a ∧ Inv X pins σ H s' ∧ s'.gens.size = s₁.gens.size + 1 ∧ (∀ i, i < s₁.gens.size → s'.gens[i]? = s₁.gens[i]?) ∧ (∀ b o, s₁.heap.get? b = some o → s'.heap.get? b = some o) ∧ s₁.heap.objs.size = n ∧ n < a ∧ FpOk X pins H n ∧ FpOk X pins H a ∧
    (rgd X.base X.stack n F X.s_0.os f cd D s k).TN X.prog X.w A1 a s₁.gens.size 0 s'
theorem made_R {X : Cx} (hK : X.K = K) (hm : X.mg = mg) (T : Txt K mg) {pins : List (Addr × Obj)} {σ : L2.St} {H : Hp} {s₁ : Shared} {A1 : Around} {D : Addr} {s : Dt} {k : Int} {F : Nat} {args : Args} {us : List Value} (I : Inv X pins σ H s₁) (hr : Room 1 X.A) (h1 : Room 6 A1) (hfr : A1.frames = some X.stack)
    (hb : BindsTo s₁ T.fd_renewal_dates args ((["date", "step"] : List Str).zip us)) (r : Vals [.ref D, .int k] us) (hD : H D = some (.tup (dT s))) (ok : okS s) (hF : 0 < F) :
    codeAny (model X.prog X.w) X.A (.call (.ref (He.ga K "renewal_dates")) args) (fun r s' => ∃ u, r = .ok (.ret u) ∧ MadeR X pins σ H A1 D s k F s₁ u s') s₁ := by
  subst hK hm
  refine Gn.made T.F_renewal_dates sc_renewal_dates hr I.env0 hb r rfl fun cdv s' a os gens kp gen lt lc => ⟨_, rfl, a, s₁.heap.objs.size, He.ga X.K "renewal_dates", cdv, rfl, ?_, ?_, fun i hi => ?_, kp, rfl, lt, I.fpOk (Nat.le_refl _) (I.hok.fresh (Nat.le_refl _)), I.fpOk (Nat.le_of_lt lt) (I.hok.fresh (Nat.le_of_lt lt)), ?_⟩
  · obtain ⟨hh, gg, dd, tt, oo⟩ := s'
    obtain rfl : oo = s₁.os := os
    have gb : AllBare gg := by
      rw [show gg = s₁.gens.push _ from gens]
      exact AllBare.push I.bare rfl
    exact I.step (g' := gg) (t' := tt) (d' := dd) (ch := []) (fun _ z => nomatch z) (fun b o _ _ _ e _ => kp b o e) (fun b o _ _ _ e _ => ⟨o.slots, kp b o e⟩) (fun _ _ _ _ n => n) (fun b o _ e => ⟨o, kp b o e⟩) (fun _ _ e => e) (fun _ _ _ e => e) (fun b ps e => ⟨#[], by rw [e]; simp⟩)
      (fun m ⟨o, es, ep, e, q⟩ => ⟨o, es, ep, kp _ _ e, q⟩) (I.hok.kept kp) gb
  · rw [gens, Array.size_push]
  · rw [gens, Array.getElem?_push, if_neg (Nat.ne_of_lt hi)]
  · have nD : ¬ (D = s₁.heap.objs.size ∨ (X.base.get? D).isSome = true ∨ D ∈ frs X.stack) := by
      rintro (z | z | z)
      · rw [z, I.hok.fresh (Nat.le_refl _)] at hD
        cases hD
      · obtain ⟨o, e⟩ := Option.isSome_iff_exists.mp z
        rw [(I.bs D o e).2] at hD
        cases hD
      · rw [I.stkFree D z] at hD
        cases hD
    have G : Gn.GCtx X.K X.mg X.base (envR s₁.heap.objs.size (He.ga X.K "renewal_dates") cdv) X.stack (A1.deeper (envR s₁.heap.objs.size (He.ga X.K "renewal_dates") cdv)) s₁.heap.objs.size :=
      Gn.gctx I.mod sc_renewal_dates.kind plain_R h1.hd hfr (Nat.le_trans I.ok.bsz I.sz) fun b hb => by
        obtain ⟨_, o, e, _⟩ := I.stack.mem hb
        exact Heap.lt_size e
    have gl : s'.gens[s₁.gens.size]? = some (.fresh (.func (defBody s_renewal_dates) (envR s₁.heap.objs.size (He.ga X.K "renewal_dates") cdv))) := by
      rw [gens]
      exact Array.getElem?_push_size ..
    exact ⟨gen, lc, _, gl, rfl, fun z => absurd z (by omega), fun _ s2 rd => ⟨rfl, begin_R T (h1.deeper _) G nD hF ok rd⟩⟩
/-- the dates that the generator hands out -/
def ItR (D : Addr) (s : Dt) (k : Int) (F : Nat) : It := ⟨fun i H => H D = some (.tup (dT s)) ∧ i < F, fun i H x H' => ∃ t, x = .ref t ∧ H t = none ∧ H' = upd H t (.tup (dT (rst s k i))), fun _ _ => False⟩
theorem own_obj {base : Heap} {outer : List Env} {n F : Nat} {os : OsState} {f : Addr} {cd : Value} {D : Addr} {s : Dt} {k : Int} {j : Nat} {h : Heap} (o : (rgd base outer n F os f cd D s k).Own j h) : ∃ o, h.get? n = some o ∧ ∀ v, o.data ≠ .cell v := by
  obtain ⟨m, ⟨o, es, ep, e, d, _⟩, _⟩ := o
  exact ⟨o, e, fun v z => by rw [d] at z; cases z⟩
theorem gen_obj {a : Addr} {g : Nat} {h : Heap} (x : h.IsGen a g) : ∃ o, h.get? a = some o ∧ ∀ v, o.data ≠ .cell v := by
  obtain ⟨o, nm, qn, e, _, d, _⟩ := x
  exact ⟨o, e, fun v z => by rw [d] at z; cases z⟩
/-- wake j, seen by the consumer (A: where next stands) -/
theorem next_R {X : Cx} {pins : List (Addr × Obj)} {σ : L2.St} {H : Hp} {s₁ : Shared} {A : Around} {E : Value → Shared → Prop} {D : Addr} {s : Dt} {k : Int} {F : Nat} {a n f : Addr} {cd : Value} {g j : Nat} (hd : A.handled = none) (hA : A.depth < recursionLimit)
    (I : Inv X pins σ H s₁) (fn : FpOk X pins H n) (fa : FpOk X pins H a) (an : n < a) (T : (rgd X.base X.stack n F X.s_0.os f cd D s k).TN X.prog X.w A.in1 a g j s₁) (hD : H D = some (.tup (dT s))) (hj : j < F) :
    wpAny (model X.prog X.w) A (pyNext (.ref a)) (fun r s2 => ∃ u t, r = some u ∧ u = .ref t ∧ H t = none ∧ s₁.heap.get? t = none ∧ Inv X pins σ (upd H t (.tup (dT (rst s k j)))) s2 ∧ (rgd X.base X.stack n F X.s_0.os f cd D s k).TN X.prog X.w A.in1 a g (j + 1) s2 ∧ (∀ i, i ≠ g → s2.gens[i]? = s₁.gens[i]?) ∧
      Gn.Kp n X.stack s₁.heap s2.heap ∧ ∀ b, s₁.heap.get? b ≠ none → b ≠ t) E s₁ := by
  obtain ⟨on, en, _⟩ := own_obj T.2.1
  obtain ⟨oa, ea, _⟩ := gen_obj T.1
  have low : ∀ b ∈ frs X.stack, b ≠ a := fun b hb z => by
    rcases List.mem_cons.mp (I.stkSub b hb) with e | e
    · exact fa.2.1 (z.symm.trans e)
    · exact fa.2.2.1 (z ▸ e)
  refine Gn.Gd.next T hd hA I.nolimit hj ⟨I.bk, Nat.lt_of_lt_of_le an (Nat.le_of_lt (Heap.lt_size ea)), I.stack, I.bare⟩ I.os (I.hok D _ hD) (Nat.ne_of_gt an) (fun z => low a z rfl) (fun v s2 kp os bare oth T2 jt => ?_) fun s2 _ _ _ _ ⟨_, z, _⟩ => z.elim
  obtain ⟨t, rfl, nt, tup⟩ := jt
  have ht : H t = none := by
    cases q : H t with
    | none => rfl
    | some u =>
      have z : ∃ o, s₁.heap.get? t = some o := Gn.obj_some (I.hok t u q)
      obtain ⟨o, z⟩ := z
      rw [nt] at z
      cases z
  refine ⟨_, t, rfl, rfl, ht, nt, ?_, T2, oth, kp, fun b hb z => hb (by rw [z]; exact nt)⟩
  refine Gn.inv_fed I kp os bare fn (fun b u e => ?_) fun b u e e2 => ?_
  · have ne : b ≠ t := fun z => by
      rw [z, ht] at e
      cases e
    rw [upd_ne ne]
    exact e
  · by_cases hb : b = t
    · subst hb
      rw [upd_same] at e
      cases e
      exact ⟨nt, tup⟩
    · rw [upd_ne hb, e2] at e
      cases e
/-- the generator in a for -/
theorem turn_R {X : Cx} {pins : List (Addr × Obj)} {σ : L2.St} {H : Hp} {s₁ s' : Shared} {D : Addr} {s : Dt} {k : Int} {F : Nat} {u : Value} (hc : X.calm = true) (hA : X.A.depth < recursionLimit) (I : Inv X pins σ H s₁) (M : MadeR X pins σ H X.A.in1 D s k F s₁ u s') {R : It → Hp → Prop} {E : Value → Shared → Prop} (q : R (ItR D s k F) H) :
    wpAny (model X.prog X.w) X.A (pyIter u) (fun itv s2 => ∃ (it : Addr) (fp : List Addr) (tn : Nat → Shared → Prop) (J : It) (H' : Hp), itv = .ref it ∧ Inv X pins σ H' s2 ∧
      (∀ i s, tn i s → ∃ o vs, s.heap.get? it = some o ∧ o.cls = .type "generator" ∧ o.data = .fields vs) ∧ Gn.TurnS X J fp it tn ∧ tn 0 s2 ∧ (∀ b ∈ fp, FpOk X pins H' b) ∧ (∀ i H, ¬ J.stop i H) ∧ R J H') E s' := by
  obtain ⟨a, n, f, cd, rfl, I1, _, _, _, _, an, fn, fa, T⟩ := M
  refine wpAny_pyIter_gen T.1 ⟨a, [n, a], fun j s => (rgd X.base X.stack n F X.s_0.os f cd D _ k).TN X.prog X.w X.A.in1 a s₁.gens.size j s, ItR D _ k F, H, rfl, I1, fun i s t => ?_, ⟨fun i s t b hb => ?_, fun i s s' hi t kp ks => ?_, fun i pins s σ H E I fp t go => ?_⟩, T, fun b hb => ?_, fun _ _ z => z, q⟩
  · obtain ⟨o, nm, qn, e, c, d, _⟩ := t.1
    exact ⟨o, _, e, c, d⟩
  · simp only [List.mem_cons, List.not_mem_nil, or_false] at hb
    rcases hb with rfl | rfl
    · exact own_obj t.2.1
    · exact gen_obj t.1
  · refine t.keep hi (kp a (by simp)) (fun o => ?_) ks
    exact Gn.Lc.keep o (fun x => by
      show (cellsFrom (n + 1) (defScope s_renewal_dates).names []).lookup x = none
      rw [Gn.cells_none _ _ _ fun y hy => (plain_R y hy).1]
      rfl) (kp n (by simp))
  · have fp1 := fp n (by simp)
    have fp2 := fp a (by simp)
    refine thn (next_R (I.ok.hd hc) hA I fp1 fp2 an t go.1 go.2) fun r s2 ⟨u, t, e1, e2, ht, nt, I2, T2, _, _, ne⟩ => ⟨u, .ref t, _, e1, I2, e2.symm ▸ rfl, ⟨t, rfl, ht, rfl⟩, T2, fun b hb => ?_⟩
    simp only [List.mem_cons, List.not_mem_nil, or_false] at hb
    rcases hb with rfl | rfl
    · rw [upd_ne (ne _ (by obtain ⟨o, e, _⟩ := own_obj t.2.1; rw [e]; exact fun z => nomatch z))]
      exact fp1.1
    · rw [upd_ne (ne _ (by obtain ⟨o, e, _⟩ := gen_obj t.1; rw [e]; exact fun z => nomatch z))]
      exact fp2.1
  · simp only [List.mem_cons, List.not_mem_nil, or_false] at hb
    rcases hb with rfl | rfl
    · exact fn
    · exact fa
/-! the two forms of its call as a for's iterable -/
def iR (ta : TA) : TI := fun σ H R => ta σ H fun vs H1 => ∃ D s k F, vs = [.ref D, .int k] ∧ H1 D = some (.tup (dT s)) ∧ okS s ∧ 0 < F ∧ R (ItR D s k F) H1
def iRK (tk : TA) : TI := fun σ H R => tk σ H fun vs H1 => ∃ D s k F, vs = [.int k, .ref D] ∧ H1 D = some (.tup (dT s)) ∧ okS s ∧ 0 < F ∧ R (ItR D s k F) H1
theorem pis_R {X : Cx} (T : Txt K mg) (hK : X.K = K) (hm : X.mg = mg) (hr : Room 7 X.A) (hc : X.calm = true) {e : Expr} {es : List Expr} {ta : TA} {p pos : Pos} (hg : Gl X "renewal_dates") (ha : PA X (e :: es) ta)
    (he : starEach (e :: es) X.env = (false, eval e X.env) :: starEach es X.env := by rfl) (hpl : (backTo pos (starEach es X.env)).any (·.1) = false := by rfl) : Gn.PIS X (.Call (.Name "renewal_dates" p) (e :: es) [] pos) (iR ta) := by
  subst hK hm
  intro pins s₁ σ H R I h
  refine wpAny_Call_Name_kw (ld_glob I hg T.g_renewal_dates ?_ (by decide))
  refine PySem.W.callWith_K (h₀ := X.base) I.ok.mod.kin T.F_renewal_dates.kp (thn (ha.run pos pins s₁ σ H _ I h) fun us s1 ⟨vs, H1, I1, r, D, s, k, F, e1, hD, ok, hF, q⟩ => ⟨I1.kIn, ?_⟩) he hpl
  subst e1
  refine wpAny_call (codeAny_mono (made_R rfl rfl T (args := ⟨us, []⟩) (us := us) I1 (hr.mono (by decide)) (hr.in1) I1.ok.frames (by
    have z := b_renewal_dates T s1 us I1.kIn (by rw [List.append_nil, ← r.length]; rfl)
    rw [List.append_nil] at z
    exact z) r hD ok hF) fun r s' ⟨u, e2, M⟩ => ?_)
  subst e2
  exact turn_R hc hr.depth I1 M q
theorem pis_RK {X : Cx} (T : Txt K mg) (hK : X.K = K) (hm : X.mg = mg) (hr : Room 7 X.A) (hc : X.calm = true) {kws : List Keyword} {tk : TA} {p pos : Pos} (hg : Gl X "renewal_dates") (hkw : PK X kws tk)
    (hall : (backToKw pos (keywordEach kws X.env)).all (·.1.isSome) = true := by rfl) (hks : (backToKw pos (keywordEach kws X.env)).filterMap (·.1) = (["step", "date"] : List Str) := by rfl)
    (hpl : ((backTo pos (starEach [] X.env)).any (·.1) || (backToKw pos (keywordEach kws X.env)).any (·.1.isNone)) = false := by rfl) : Gn.PIS X (.Call (.Name "renewal_dates" p) [] kws pos) (iRK tk) := by
  subst hK hm
  intro pins s₁ σ H R I h
  refine wpAny_Call_Name_kw (ld_glob I hg T.g_renewal_dates ?_ (by decide))
  refine PySem.W.callWith_KW0 (h₀ := X.base) I.ok.mod.kin T.F_renewal_dates.kp hall (thn (hkw.run pos pins s₁ σ H _ I h) fun ws s1 ⟨zs, H1, I1, r, D, s, k, F, e1, hD, ok, hF, q⟩ => ⟨I1.kIn, ?_⟩) hpl
  subst e1
  rw [hks]
  have B := kb_renewal_dates_0_step_date T
  have l2 : ws.length = 2 := by rw [← r.length]; rfl
  refine wpAny_call (codeAny_mono (made_R rfl rfl T (us := gP .none [1, 0] [] ws) I1 (hr.mono (by decide)) (hr.in1) I1.ok.frames (B.to s1 [] ws I1.kIn rfl l2) (B.rel .nil r) hD ok hF) fun r s' ⟨u, e2, M⟩ => ?_)
  subst e2
  exact turn_R hc hr.depth I1 M q
section
variable {σ : L2.St} {H : Hp} {ta : TA} {R : It → Hp → Prop}
theorem st_iR (h : ta σ H fun vs H1 => ∃ D s k F, vs = [.ref D, .int k] ∧ H1 D = some (.tup (dT s)) ∧ okS s ∧ 0 < F ∧ R (ItR D s k F) H1) : iR ta σ H R := h
theorem st_iRK (h : ta σ H fun vs H1 => ∃ D s k F, vs = [.int k, .ref D] ∧ H1 D = some (.tup (dT s)) ∧ okS s ∧ 0 < F ∧ R (ItR D s k F) H1) : iRK ta σ H R := h
/-- such a for, left by a break in turn n - 1 at the latest -/
theorem fG {D : Addr} {s : Dt} {k : Int} {F : Nat} {g : TG} {u : TS} {nx : L2.St → Hp → Prop} {rt : VK} (n : Nat) (h1 : 0 < n) (hn : n ≤ F) (Pv : Nat → L2.St → Hp → Prop) (h0 : Pv 0 σ H) (hD : ∀ i σ H, i < n → Pv i σ H → H D = some (.tup (dT s)))
    (hs : ∀ i σ H t, i < n → Pv i σ H → H t = none → g (.ref t) σ (upd H t (.tup (dT (rst s k i)))) fun σ2 H2 => u ⟨fun σ' H' => i + 1 < n ∧ Pv (i + 1) σ' H', rt, nx, fun σ' H' => i + 1 < n ∧ Pv (i + 1) σ' H'⟩ σ2 H2) :
    ∃ W : Nat → Nat → L2.St → Hp → Prop, (∃ m, W 0 m σ H) ∧ ∀ i m σ H, W i m σ H →
      ((ItR D s k F).stop i H ∧ nx σ H) ∨ ((ItR D s k F).go i H ∧ ∃ N : L2.St → Hp → Prop, (∀ σ' H', N σ' H' → ∃ m', m' < m ∧ W (i + 1) m' σ' H') ∧ ∀ x H', (ItR D s k F).yld i H x H' → g x σ H' fun σ2 H2 => u ⟨N, rt, nx, N⟩ σ2 H2) := by
  refine ⟨fun i m σ H => m = n - i ∧ i < n ∧ Pv i σ H, ⟨n, rfl, h1, h0⟩, ?_⟩
  rintro i m σ H ⟨rfl, hi, p⟩
  refine .inr ⟨⟨hD i σ H hi p, Nat.lt_of_lt_of_le hi hn⟩, fun σ' H' => i + 1 < n ∧ Pv (i + 1) σ' H', fun σ' H' ⟨l, p'⟩ => ⟨n - (i + 1), by omega, rfl, l, p'⟩, fun x H' ⟨t, e, nt, eH⟩ => ?_⟩
  subst e eH
  exact hs i σ H t hi p nt
end

end
end Mc
namespace Mc
open PySem PySem.Spec PyProof.Rows L2
local macro_rules | `(tactic| lcg_src) => `(tactic| first
  | with_reducible assumption
  | ((with_reducible apply Ne.symm); with_reducible assumption)
  | ((with_reducible apply ne_nf); (with_reducible assumption); lcg_off)
  | ((with_reducible apply Ne.symm); (with_reducible apply ne_nf); (with_reducible assumption); lcg_off))
local macro_rules | `(tactic| lcg_off) => `(tactic| first
  | with_reducible assumption
  | (with_reducible exact upd_same)
  | ((with_reducible apply hp_ne); lcg_src; lcg_off)
  | ((with_reducible apply hp_same); (with_reducible assumption); lcg_off)
  | ((with_reducible apply hp_frm); (with_reducible assumption); lcg_src; lcg_off)
  | ((with_reducible apply hp_frm2); (with_reducible assumption); lcg_src; lcg_src; lcg_off)
  | assumption)
local macro_rules | `(tactic| kpt_turns) => `(tactic| first
  | with_reducible assumption
  | ((with_reducible apply SqL.of); lcg_off)
  | ((with_reducible apply SqT.of); lcg_off)
  | ((with_reducible apply Frm.seq); (with_reducible assumption); lcg_src; kpt_turns)
  | ((with_reducible apply Frm.tup); (with_reducible assumption); lcg_src; kpt_turns)
  | ((with_reducible apply Frm2.seq); (with_reducible assumption); lcg_src; lcg_src; kpt_turns)
  | ((with_reducible apply Frm2.tup); (with_reducible assumption); lcg_src; lcg_src; kpt_turns)
  | ((with_reducible apply L2.Same.seq); (with_reducible assumption); kpt_turns)
  | ((with_reducible apply Same.tup); (with_reducible assumption); kpt_turns)
  | assumption)
local macro_rules | `(tactic| k_memK) => `(tactic| first
  | with_reducible exact Frm.refl _
  | with_reducible assumption
  | ((with_reducible apply Frm.trN); (with_reducible assumption); k_memK)
  | ((with_reducible apply Frm.trU); k_memK)
  | ((with_reducible apply Frm.trM); (with_reducible assumption); k_memK)
  | ((with_reducible apply Frm.tr); (with_reducible assumption); k_memK)
  | ((with_reducible apply Frm.trS); (with_reducible assumption); k_memK)
  | with_reducible exact Frm2.refl _
  | ((with_reducible apply Frm2.trN); (with_reducible assumption); k_memK)
  | ((with_reducible apply Frm2.trU); k_memK)
  | ((with_reducible apply Frm2.trV); k_memK)
  | ((with_reducible apply Frm2.trM); (with_reducible assumption); k_memK)
  | ((with_reducible apply Frm2.tr); (with_reducible assumption); k_memK)
  | ((with_reducible apply Frm2.trS); (with_reducible assumption); k_memK))
local macro_rules | `(tactic| k_allIn) => `(tactic| first
  | with_reducible exact L2.Same.refl _
  | with_reducible assumption
  | ((with_reducible apply same_trN); (with_reducible assumption); k_allIn)
  | ((with_reducible apply same_trU); (with_reducible assumption); k_allIn)
  | ((with_reducible apply same_tr); (with_reducible assumption); k_allIn))
local macro_rules | `(tactic| k_ownIn) => `(tactic| first
  | with_reducible refine st_seq ?_
  | ((with_reducible refine' st_setF ?e ?_); (case e => intro x; (simp only [List.set_cons_zero, List.set_cons_succ]; exact rfl)))
  | with_reducible refine st_c ?_
  | ((with_reducible refine' st_var ?h ?_); (case h => exact rfl))
  | with_reducible refine st_op ?_
  | with_reducible refine st_I0 ?_
  | ((with_reducible refine' st_powL ?c ?e ?_); (case c => exact ⟨by decide, by decide, by decide⟩); (case e => (simp only [Int.reduceToNat, Int.reducePow]; exact rfl)))
  | ((with_reducible refine st_I ?h ?_); (case h => first | with_reducible assumption | (show (0 : Int) < _; omega) | exact ⟨by omega, by omega⟩ | exact .inl ⟨by omega, by omega⟩ | exact .inr ⟨by omega, by omega⟩ | exact ⟨by omega, by omega, by omega⟩))
  | with_reducible refine st_nil ?_
  | with_reducible refine st_cons ?_
  | with_reducible refine st_ret ?_
  | with_reducible refine st_call ?_
  | with_reducible refine st_cb ?_
  | with_reducible refine st_exb ?_
  | ((with_reducible refine' st_ixL ?h1 ?h2 ?_); (case h1 => kpt_turns); (case h2 => first | ((with_reducible apply at0); exact rfl) | ((with_reducible apply at1); exact rfl) | ((with_reducible apply at2); exact rfl) | ((with_reducible apply at3); exact rfl) | with_reducible assumption))
  | ((with_reducible refine' st_ixT ?h1 ?h2 ?_); (case h1 => kpt_turns); (case h2 => first | ((with_reducible apply at0); exact rfl) | ((with_reducible apply at1); exact rfl) | ((with_reducible apply at2); exact rfl) | with_reducible assumption))
  | ((with_reducible refine' st_ixP ?h1 ?h2 ?h3 ?h4 ?_); (case h1 => kpt_turns); (case h2 => (repeat constructor)); (case h3 => omega); (case h4 => (simp; omega)))
  | ((with_reducible refine' st_ixPT ?h1 ?h2 ?h3 ?h4 ?_); (case h1 => kpt_turns); (case h2 => (repeat constructor)); (case h3 => omega); (case h4 => (simp; omega)))
  | with_reducible refine st_tB ?_
  | with_reducible refine st_test ?_
  | with_reducible refine st_and ?_
  | with_reducible refine st_or ?_
  | with_reducible refine st_not ?_
  | with_reducible refine st_andV ?_
  | with_reducible refine st_orV ?_
  | with_reducible refine st_notV ?_
  | with_reducible refine st_chain ?_
  | with_reducible refine st_iT ?_
  | with_reducible refine st_iF ?_
  | with_reducible refine st_iNT ?_
  | with_reducible refine st_iNF ?_
  | with_reducible refine st_iRf ?_
  | with_reducible refine st_iNRf ?_
  | with_reducible refine st_asg ?_
  | ((with_reducible refine' st_parF ?e ?_); (case e => intro x y; (simp only [List.set_cons_zero, List.set_cons_succ]; exact rfl)))
  | with_reducible refine st_par2 ?_
  | with_reducible refine st_fst ?_
  | with_reducible refine st_jsE ?_
  | with_reducible refine st_js ?_
  | with_reducible refine st_fmt ?_
  | with_reducible refine st_joinK ?_
  | with_reducible refine st_strx ?_
  | ((with_reducible refine' st_par3F ?e ?_); (case e => intro x y z; (simp only [List.set_cons_zero, List.set_cons_succ]; exact rfl)))
  | with_reducible refine st_par3 ?_
  | ((with_reducible refine' st_augF ?h ?e ?_); (case h => exact rfl); (case e => intro x; (simp only [List.set_cons_zero, List.set_cons_succ]; exact rfl)))
  | with_reducible refine st_ipI ?_
  | with_reducible refine st_drop ?_
  | with_reducible refine st_next ?_
  | with_reducible refine st_un ?_
  | with_reducible refine st_U ?_
  | ((with_reducible refine' st_gNF ?e ?_); (case e => (simp only [List.set_cons_zero, List.set_cons_succ]; exact rfl)))
  | with_reducible refine st_gN ?_
  | ((with_reducible refine' st_gT ?h1 ?h2 ?_); (case h1 => kpt_turns); (case h2 => exact rfl))
  | with_reducible refine st_gC ?_
  | with_reducible refine st_gE ?_
  | with_reducible refine st_gS ?_
  | ((with_reducible refine' st_setL ?h1 ?h2 ?_); (case h1 => lcg_off); (case h2 => exact rfl))
  | with_reducible refine st_lst ?_
  | with_reducible refine st_tup ?_
  | ((with_reducible refine st_new ?h ?_); (case h => (simp; done)))
  | with_reducible refine st_callN ?_
  | with_reducible refine st_bm ?_
  | with_reducible refine st_bm0 ?_
  | ((with_reducible refine' st_tyL ?h ?_); (case h => kpt_turns))
  | ((with_reducible refine st_eq ?h ?_); (case h => exact rfl))
  | ((with_reducible refine st_ne ?h ?_); (case h => exact rfl))
  | with_reducible refine st_i1 ?_
  | with_reducible refine st_i2 ?_
  | with_reducible refine st_int ?_
  | with_reducible refine st_intb ?_
  | ((with_reducible refine' st_lenQ ?h ?_); (case h => kpt_turns))
  | ((with_reducible refine' st_lenQT ?h ?_); (case h => kpt_turns))
  | with_reducible refine st_yes ?_
  | with_reducible refine st_brk ?_
  | with_reducible refine st_cont ?_
  | with_reducible refine st_retN ?_
  | with_reducible refine st_forI ?_
  | with_reducible refine st_lcI ?_
  | with_reducible refine st_itL ?_
  | with_reducible refine st_itT ?_
  | with_reducible refine st_rng1 ?_
  | with_reducible refine st_rng2 ?_
  | with_reducible refine st_ref ?_
  | with_reducible refine st_sl ?_
  | with_reducible refine st_pN ?_
  | with_reducible refine st_pS ?_
  | with_reducible refine st_pI ?_
  | (refine ⟨rfl, ?_⟩))
local macro_rules | `(tactic| cell_call) => `(tactic| first
  | with_reducible refine st_seq ?_
  | ((with_reducible refine' st_setF ?e ?_); (case e => intro x; (simp only [List.set_cons_zero, List.set_cons_succ]; exact rfl)))
  | with_reducible refine st_c ?_
  | ((with_reducible refine' st_var ?h ?_); (case h => exact rfl))
  | with_reducible refine st_op ?_
  | with_reducible refine st_I0 ?_
  | ((with_reducible refine' st_powL ?c ?e ?_); (case c => exact ⟨by decide, by decide, by decide⟩); (case e => (simp only [Int.reduceToNat, Int.reducePow]; exact rfl)))
  | ((with_reducible refine st_I ?h ?_); (case h => first | with_reducible assumption | (show (0 : Int) < _; omega) | exact ⟨by omega, by omega⟩ | exact .inl ⟨by omega, by omega⟩ | exact .inr ⟨by omega, by omega⟩ | exact ⟨by omega, by omega, by omega⟩))
  | with_reducible refine st_nil ?_
  | with_reducible refine st_cons ?_
  | with_reducible refine st_ret ?_
  | with_reducible refine st_call ?_
  | with_reducible refine st_cb ?_
  | with_reducible refine st_exb ?_
  | ((with_reducible refine' st_ixL ?h1 ?h2 ?_); (case h1 => kpt_turns); (case h2 => first | ((with_reducible apply at0); exact rfl) | ((with_reducible apply at1); exact rfl) | ((with_reducible apply at2); exact rfl) | ((with_reducible apply at3); exact rfl) | with_reducible assumption))
  | ((with_reducible refine' st_ixT ?h1 ?h2 ?_); (case h1 => kpt_turns); (case h2 => first | ((with_reducible apply at0); exact rfl) | ((with_reducible apply at1); exact rfl) | ((with_reducible apply at2); exact rfl) | with_reducible assumption))
  | ((with_reducible refine' st_ixP ?h1 ?h2 ?h3 ?h4 ?_); (case h1 => kpt_turns); (case h2 => (repeat constructor)); (case h3 => omega); (case h4 => (simp; omega)))
  | ((with_reducible refine' st_ixPT ?h1 ?h2 ?h3 ?h4 ?_); (case h1 => kpt_turns); (case h2 => (repeat constructor)); (case h3 => omega); (case h4 => (simp; omega)))
  | with_reducible refine st_tB ?_
  | with_reducible refine st_test ?_
  | with_reducible refine st_and ?_
  | with_reducible refine st_or ?_
  | with_reducible refine st_not ?_
  | with_reducible refine st_andV ?_
  | with_reducible refine st_orV ?_
  | with_reducible refine st_notV ?_
  | with_reducible refine st_chain ?_
  | with_reducible refine st_iT ?_
  | with_reducible refine st_iF ?_
  | with_reducible refine st_iNT ?_
  | with_reducible refine st_iNF ?_
  | with_reducible refine st_iRf ?_
  | with_reducible refine st_iNRf ?_
  | with_reducible refine st_asg ?_
  | ((with_reducible refine' st_parF ?e ?_); (case e => intro x y; (simp only [List.set_cons_zero, List.set_cons_succ]; exact rfl)))
  | with_reducible refine st_par2 ?_
  | with_reducible refine st_fst ?_
  | with_reducible refine st_jsE ?_
  | with_reducible refine st_js ?_
  | with_reducible refine st_fmt ?_
  | with_reducible refine st_joinK ?_
  | with_reducible refine st_strx ?_
  | ((with_reducible refine' st_par3F ?e ?_); (case e => intro x y z; (simp only [List.set_cons_zero, List.set_cons_succ]; exact rfl)))
  | with_reducible refine st_par3 ?_
  | ((with_reducible refine' st_augF ?h ?e ?_); (case h => exact rfl); (case e => intro x; (simp only [List.set_cons_zero, List.set_cons_succ]; exact rfl)))
  | with_reducible refine st_ipI ?_
  | with_reducible refine st_drop ?_
  | with_reducible refine st_next ?_
  | with_reducible refine st_un ?_
  | with_reducible refine st_U ?_
  | ((with_reducible refine' st_gNF ?e ?_); (case e => (simp only [List.set_cons_zero, List.set_cons_succ]; exact rfl)))
  | with_reducible refine st_gN ?_
  | ((with_reducible refine' st_gT ?h1 ?h2 ?_); (case h1 => kpt_turns); (case h2 => exact rfl))
  | with_reducible refine st_gC ?_
  | with_reducible refine st_gE ?_
  | with_reducible refine st_gS ?_
  | ((with_reducible refine' st_setL ?h1 ?h2 ?_); (case h1 => lcg_off); (case h2 => exact rfl))
  | with_reducible refine st_lst ?_
  | with_reducible refine st_tup ?_
  | ((with_reducible refine st_new ?h ?_); (case h => (simp; done)))
  | with_reducible refine st_callN ?_
  | with_reducible refine st_bm ?_
  | with_reducible refine st_bm0 ?_
  | ((with_reducible refine' st_tyL ?h ?_); (case h => kpt_turns))
  | ((with_reducible refine st_eq ?h ?_); (case h => exact rfl))
  | ((with_reducible refine st_ne ?h ?_); (case h => exact rfl))
  | with_reducible refine st_i1 ?_
  | with_reducible refine st_i2 ?_
  | with_reducible refine st_int ?_
  | with_reducible refine st_intb ?_
  | ((with_reducible refine' st_lenQ ?h ?_); (case h => kpt_turns))
  | ((with_reducible refine' st_lenQT ?h ?_); (case h => kpt_turns))
  | with_reducible refine st_yes ?_
  | with_reducible refine st_brk ?_
  | with_reducible refine st_cont ?_
  | with_reducible refine st_retN ?_
  | with_reducible refine st_forI ?_
  | with_reducible refine st_lcI ?_
  | with_reducible refine st_itL ?_
  | with_reducible refine st_itT ?_
  | with_reducible refine st_rng1 ?_
  | with_reducible refine st_rng2 ?_
  | with_reducible refine st_ref ?_
  | with_reducible refine st_sl ?_
  | with_reducible refine st_pN ?_
  | with_reducible refine st_pS ?_
  | with_reducible refine st_pI ?_
  | (refine ⟨rfl, ?_⟩)
  | with_reducible refine st_ifE ?_
  | with_reducible refine st_ifS ?_)
local macro_rules | `(tactic| kpf_close) => `(tactic| first
  | cell_call
  | refine st_iD (fun _ => ?_) (fun _ => ?_)
  | refine st_iND (fun _ => ?_) (fun _ => ?_)
  | refine st_iNB (fun _ => ?_) (fun _ => ?_)
  | refine st_iB (fun _ => ?_) (fun _ => ?_))
local macro_rules | `(tactic| k_places) => `(tactic| first
  | with_reducible refine isi_non_bool ?_
  | with_reducible refine isi_non_int ?_
  | with_reducible refine isi_non_str ?_
  | with_reducible refine isi_non_list ?_
  | with_reducible refine isi_non_tuple ?_
  | with_reducible refine isi_bl_bool ?_
  | with_reducible refine isi_bl_int ?_
  | with_reducible refine isi_bl_str ?_
  | with_reducible refine isi_bl_list ?_
  | with_reducible refine isi_bl_tuple ?_
  | with_reducible refine isi_int_bool ?_
  | with_reducible refine isi_int_int ?_
  | with_reducible refine isi_int_str ?_
  | with_reducible refine isi_int_list ?_
  | with_reducible refine isi_int_tuple ?_
  | with_reducible refine isi_str_bool ?_
  | with_reducible refine isi_str_int ?_
  | with_reducible refine isi_str_str ?_
  | with_reducible refine isi_str_list ?_
  | with_reducible refine isi_str_tuple ?_
  | ((with_reducible refine' isi_list_bool ?h ?_); (case h => kpt_turns))
  | ((with_reducible refine' isi_list_int ?h ?_); (case h => kpt_turns))
  | ((with_reducible refine' isi_list_str ?h ?_); (case h => kpt_turns))
  | ((with_reducible refine' isi_list_list ?h ?_); (case h => kpt_turns))
  | ((with_reducible refine' isi_list_tuple ?h ?_); (case h => kpt_turns))
  | ((with_reducible refine' isi_tuple_bool ?h ?_); (case h => kpt_turns))
  | ((with_reducible refine' isi_tuple_int ?h ?_); (case h => kpt_turns))
  | ((with_reducible refine' isi_tuple_str ?h ?_); (case h => kpt_turns))
  | ((with_reducible refine' isi_tuple_list ?h ?_); (case h => kpt_turns))
  | ((with_reducible refine' isi_tuple_tuple ?h ?_); (case h => kpt_turns)))
section
variable {P : Program} {w : World} {K : PySem.W.Frag} {mg : Str → Option Value} {base : Heap}
def sp_law_first (K : PySem.W.Frag) : Sp := fun vs H Q _ => ∃ (B : Addr) (s : Dt) (k : Int) (m : Nat), vs = [.ref B, .int k, .int m] ∧ H B = some (.tup (dT s)) ∧ okS s ∧ 0 < m ∧ m ≤ 6000 ∧
  ∀ (p : Addr) (ts : List Addr) (H' : Hp), Same H H' → H p = none → H' p = some (.lst (ts.map V.ref)) → ts.length = m → (∀ j, j < m → ∃ t, ts[j]? = some t ∧ H' t = some (.tup (dT (rst s k j)))) → Q (.ref p) H'
theorem ok_law_first (T : Txt K mg) : FnOk P w K mg base CX0 8 (He.ga K "_law_first") T.fd_law_first ["begun", "stride", "many"] (sp_law_first K) := by
  refine T.F_law_first.ok sc_law_first (fun vs H Q E h => ?_) (fun cdv A outer s H vs Q E hr h => ?_)
  · obtain ⟨B, s, k, m, rfl, _⟩ := h
    rfl
  · obtain ⟨B, s, k, m, rfl, hB, ok, m0, m1, q⟩ := h
    refine ⟨_, PSs.nox (pss_cons (ps_set (i := 3) sc_law_first.nd rfl (Or.inl rfl) (pe_lst pa_nil))
      (pss_cons (ps_if (pt_cmpR op_eqI (pe_op op_mod (pv 2) pe_int) pe_int (nomark _)) (pss_cons (Gn.ps_forS (fun _ _ _ _ z => z) (pis_RK T rfl rfl (hr.mono (by decide)) rfl rfl (pk_cons (pv 1) (pk_cons (pv 0) pk_nil))) (pg_name (i := 4) sc_law_first.nd rfl (Or.inl rfl)) (pss_cons (ps_expr (show PE _ _ (tBM K _ _ _ _) from pe_bm PySem.F.plainAttrs_list PySem.F.slot_list_append PySem.F.type_list_append mt_append (pv 3) (pa_cons (pv 4) pa_nil)))
      (pss_one (ps_if (pt_cmpR op_eqI (pe_callB (show CallR _ _ (rLenQ K) from call_lenQ) (by rfl) T.b_len PySem.boot_len (pa_cons (pv 3) pa_nil)) (pv 2) (nomark _)) (pss_one ps_break) pss_nil))))
      (pss_one (ps_ret (pv 3)))) pss_nil)
      (pss_cons (Gn.ps_forS (fun _ _ _ _ z => z) (pis_R T rfl rfl (hr.mono (by decide)) rfl rfl (pa_cons (pv 0) (pa_cons (pv 1) pa_nil))) (pg_name (i := 4) sc_law_first.nd rfl (Or.inl rfl)) (pss_cons (ps_expr (show PE _ _ (tBM K _ _ _ _) from pe_bm PySem.F.plainAttrs_list PySem.F.slot_list_append PySem.F.type_list_append mt_append (pv 3) (pa_cons (pv 4) pa_nil)))
      (pss_one (ps_if (pt_cmpR op_eqI (pe_callB (show CallR _ _ (rLenQ K) from call_lenQ) (by rfl) T.b_len PySem.boot_len (pa_cons (pv 3) pa_nil)) (pv 2) (nomark _)) (pss_one ps_break) pss_nil))))
      (pss_one (ps_ret (pv 3)))))), ?_⟩
    rw [start_law_first]
    repeat cell_call
    intro F nF
    have sm0 : Same H (upd H F (.lst [])) := Same.new nF
    repeat cell_call
    refine st_iD (fun h0 => ?_) (fun h0 => ?_)
    · repeat cell_call
      refine st_iRK ?_
      repeat cell_call
      refine ⟨B, s, k, 6000, rfl, sm0 _ _ hB, ok, by decide, fG m m0 m1 (fun i σ' H' => ∃ (ts : List Addr) (x : Option V), σ' = [some (.ref B), some (.int k), some (.int m), some (.ref F), x] ∧ Same H H' ∧ H' F = some (.lst (ts.map V.ref)) ∧ ts.length = i ∧ ∀ j, j < i → ∃ t, ts[j]? = some t ∧ H' t = some (.tup (dT (rst s k j))) ∧ t ≠ F)
        ⟨[], _, rfl, sm0, upd_same, rfl, fun j hj => absurd hj (by omega)⟩ (fun i σ' H' _ e => ?_) (fun i σ' H' t hi e nt => ?_)⟩
      · obtain ⟨ts, x, rfl, sm, _⟩ := e
        exact sm _ _ hB
      · obtain ⟨ts, x, rfl, sm, hF, hn, ha⟩ := e
        have hF1 := hp_ne (o' := .tup (dT (rst s k i))) (ne_of_none hF nt) hF
        have eF := ne_of_none hF nt
        have smA : Same H (upd H' t (.tup (dT (rst s k i)))) := same_trN nt sm
        have hT : (upd H' t (.tup (dT (rst s k i)))) t = some (.tup (dT (rst s k i))) := upd_same
        have ha1 : ∀ j, j < i + 1 → ∃ t', (ts ++ [t])[j]? = some t' ∧ (upd H' t (.tup (dT (rst s k i)))) t' = some (.tup (dT (rst s k j))) ∧ t' ≠ F := fun j hj => by
          by_cases z : j < i
          · obtain ⟨t', e1, e2, e3⟩ := ha j z
            exact ⟨t', by rw [List.getElem?_append_left (by omega)]; exact e1, hp_ne (ne_of_none e2 nt) e2, e3⟩
          · obtain rfl : j = i := by omega
            exact ⟨t, by rw [List.getElem?_append_right (by omega), hn, Nat.sub_self]; rfl, hT, eF.symm⟩
        have hl : (ts ++ [t]).length = i + 1 := by rw [List.length_append, hn]; rfl
        clear ha sm hF hT
        generalize upd H' t (.tup (dT (rst s k i))) = H1 at *
        repeat cell_call
        refine st_app hF1 (by rw [List.length_map]; omega) ?_
        have hF2 : (upd H1 F (.lst (ts.map V.ref ++ [V.ref t]))) F = some (.lst ((ts ++ [t]).map V.ref)) := by
          rw [upd_same, List.map_append]
          rfl
        have smB : Same H (upd H1 F (.lst (ts.map V.ref ++ [V.ref t]))) := same_trU nF smA
        have ha2 : ∀ j, j < i + 1 → ∃ t', (ts ++ [t])[j]? = some t' ∧ (upd H1 F (.lst (ts.map V.ref ++ [V.ref t]))) t' = some (.tup (dT (rst s k j))) ∧ t' ≠ F := fun j hj => by
          obtain ⟨t', e1, e2, e3⟩ := ha1 j hj
          exact ⟨t', e1, hp_ne e3 e2, e3⟩
        generalize upd H1 F (.lst (ts.map V.ref ++ [V.ref t])) = H2 at *
        clear ha1 smA hF1 nt
        repeat cell_call
        rw [List.length_map, hl]
        refine st_iD (fun h1 => ?_) (fun h1 => ?_)
        · repeat cell_call
          refine q F (ts ++ [t]) H2 smB nF hF2 (by omega) fun j hj => ?_
          obtain ⟨t', e1, e2, _⟩ := ha2 j (by omega)
          exact ⟨t', e1, e2⟩
        · repeat cell_call
          exact ⟨by omega, ts ++ [t], _, rfl, smB, hF2, hl, ha2⟩
    · repeat cell_call
      refine st_iR ?_
      repeat cell_call
      refine ⟨B, s, k, 6000, rfl, sm0 _ _ hB, ok, by decide, fG m m0 m1 (fun i σ' H' => ∃ (ts : List Addr) (x : Option V), σ' = [some (.ref B), some (.int k), some (.int m), some (.ref F), x] ∧ Same H H' ∧ H' F = some (.lst (ts.map V.ref)) ∧ ts.length = i ∧ ∀ j, j < i → ∃ t, ts[j]? = some t ∧ H' t = some (.tup (dT (rst s k j))) ∧ t ≠ F)
        ⟨[], _, rfl, sm0, upd_same, rfl, fun j hj => absurd hj (by omega)⟩ (fun i σ' H' _ e => ?_) (fun i σ' H' t hi e nt => ?_)⟩
      · obtain ⟨ts, x, rfl, sm, _⟩ := e
        exact sm _ _ hB
      · obtain ⟨ts, x, rfl, sm, hF, hn, ha⟩ := e
        have hF1 := hp_ne (o' := .tup (dT (rst s k i))) (ne_of_none hF nt) hF
        have eF := ne_of_none hF nt
        have smA : Same H (upd H' t (.tup (dT (rst s k i)))) := same_trN nt sm
        have hT : (upd H' t (.tup (dT (rst s k i)))) t = some (.tup (dT (rst s k i))) := upd_same
        have ha1 : ∀ j, j < i + 1 → ∃ t', (ts ++ [t])[j]? = some t' ∧ (upd H' t (.tup (dT (rst s k i)))) t' = some (.tup (dT (rst s k j))) ∧ t' ≠ F := fun j hj => by
          by_cases z : j < i
          · obtain ⟨t', e1, e2, e3⟩ := ha j z
            exact ⟨t', by rw [List.getElem?_append_left (by omega)]; exact e1, hp_ne (ne_of_none e2 nt) e2, e3⟩
          · obtain rfl : j = i := by omega
            exact ⟨t, by rw [List.getElem?_append_right (by omega), hn, Nat.sub_self]; rfl, hT, eF.symm⟩
        have hl : (ts ++ [t]).length = i + 1 := by rw [List.length_append, hn]; rfl
        clear ha sm hF hT
        generalize upd H' t (.tup (dT (rst s k i))) = H1 at *
        repeat cell_call
        refine st_app hF1 (by rw [List.length_map]; omega) ?_
        have hF2 : (upd H1 F (.lst (ts.map V.ref ++ [V.ref t]))) F = some (.lst ((ts ++ [t]).map V.ref)) := by
          rw [upd_same, List.map_append]
          rfl
        have smB : Same H (upd H1 F (.lst (ts.map V.ref ++ [V.ref t]))) := same_trU nF smA
        have ha2 : ∀ j, j < i + 1 → ∃ t', (ts ++ [t])[j]? = some t' ∧ (upd H1 F (.lst (ts.map V.ref ++ [V.ref t]))) t' = some (.tup (dT (rst s k j))) ∧ t' ≠ F := fun j hj => by
          obtain ⟨t', e1, e2, e3⟩ := ha1 j hj
          exact ⟨t', e1, hp_ne e3 e2, e3⟩
        generalize upd H1 F (.lst (ts.map V.ref ++ [V.ref t])) = H2 at *
        clear ha1 smA hF1 nt
        repeat cell_call
        rw [List.length_map, hl]
        refine st_iD (fun h1 => ?_) (fun h1 => ?_)
        · repeat cell_call
          refine q F (ts ++ [t]) H2 smB nF hF2 (by omega) fun j hj => ?_
          obtain ⟨t', e1, e2, _⟩ := ha2 j (by omega)
          exact ⟨t', e1, e2⟩
        · repeat cell_call
          exact ⟨by omega, ts ++ [t], _, rfl, smB, hF2, hl, ha2⟩

end
end Mc
namespace Mc
open PySem PySem.Spec PyProof.Rows L2
local macro_rules | `(tactic| lcg_src) => `(tactic| first
  | with_reducible assumption
  | ((with_reducible apply Ne.symm); with_reducible assumption)
  | ((with_reducible apply ne_nf); (with_reducible assumption); lcg_off)
  | ((with_reducible apply Ne.symm); (with_reducible apply ne_nf); (with_reducible assumption); lcg_off))
local macro_rules | `(tactic| lcg_off) => `(tactic| first
  | with_reducible assumption
  | (with_reducible exact upd_same)
  | ((with_reducible apply hp_ne); lcg_src; lcg_off)
  | ((with_reducible apply hp_same); (with_reducible assumption); lcg_off)
  | ((with_reducible apply hp_frm); (with_reducible assumption); lcg_src; lcg_off)
  | ((with_reducible apply hp_frm2); (with_reducible assumption); lcg_src; lcg_src; lcg_off)
  | assumption)
local macro_rules | `(tactic| kpt_turns) => `(tactic| first
  | with_reducible assumption
  | ((with_reducible apply SqL.of); lcg_off)
  | ((with_reducible apply SqT.of); lcg_off)
  | ((with_reducible apply Frm.seq); (with_reducible assumption); lcg_src; kpt_turns)
  | ((with_reducible apply Frm.tup); (with_reducible assumption); lcg_src; kpt_turns)
  | ((with_reducible apply Frm2.seq); (with_reducible assumption); lcg_src; lcg_src; kpt_turns)
  | ((with_reducible apply Frm2.tup); (with_reducible assumption); lcg_src; lcg_src; kpt_turns)
  | ((with_reducible apply L2.Same.seq); (with_reducible assumption); kpt_turns)
  | ((with_reducible apply Same.tup); (with_reducible assumption); kpt_turns)
  | assumption)
local macro_rules | `(tactic| k_memK) => `(tactic| first
  | with_reducible exact Frm.refl _
  | with_reducible assumption
  | ((with_reducible apply Frm.trN); (with_reducible assumption); k_memK)
  | ((with_reducible apply Frm.trU); k_memK)
  | ((with_reducible apply Frm.trM); (with_reducible assumption); k_memK)
  | ((with_reducible apply Frm.tr); (with_reducible assumption); k_memK)
  | ((with_reducible apply Frm.trS); (with_reducible assumption); k_memK)
  | with_reducible exact Frm2.refl _
  | ((with_reducible apply Frm2.trN); (with_reducible assumption); k_memK)
  | ((with_reducible apply Frm2.trU); k_memK)
  | ((with_reducible apply Frm2.trV); k_memK)
  | ((with_reducible apply Frm2.trM); (with_reducible assumption); k_memK)
  | ((with_reducible apply Frm2.tr); (with_reducible assumption); k_memK)
  | ((with_reducible apply Frm2.trS); (with_reducible assumption); k_memK))
local macro_rules | `(tactic| k_allIn) => `(tactic| first
  | with_reducible exact L2.Same.refl _
  | with_reducible assumption
  | ((with_reducible apply same_trN); (with_reducible assumption); k_allIn)
  | ((with_reducible apply same_trU); (with_reducible assumption); k_allIn)
  | ((with_reducible apply same_tr); (with_reducible assumption); k_allIn))
local macro_rules | `(tactic| k_ownIn) => `(tactic| first
  | with_reducible refine st_seq ?_
  | ((with_reducible refine' st_setF ?e ?_); (case e => intro x; (simp only [List.set_cons_zero, List.set_cons_succ]; exact rfl)))
  | with_reducible refine st_c ?_
  | ((with_reducible refine' st_var ?h ?_); (case h => exact rfl))
  | with_reducible refine st_op ?_
  | with_reducible refine st_I0 ?_
  | ((with_reducible refine' st_powL ?c ?e ?_); (case c => exact ⟨by decide, by decide, by decide⟩); (case e => (simp only [Int.reduceToNat, Int.reducePow]; exact rfl)))
  | ((with_reducible refine st_I ?h ?_); (case h => first | with_reducible assumption | (show (0 : Int) < _; omega) | exact ⟨by omega, by omega⟩ | exact .inl ⟨by omega, by omega⟩ | exact .inr ⟨by omega, by omega⟩ | exact ⟨by omega, by omega, by omega⟩))
  | with_reducible refine st_nil ?_
  | with_reducible refine st_cons ?_
  | with_reducible refine st_ret ?_
  | with_reducible refine st_call ?_
  | with_reducible refine st_cb ?_
  | with_reducible refine st_exb ?_
  | ((with_reducible refine' st_ixL ?h1 ?h2 ?_); (case h1 => kpt_turns); (case h2 => first | ((with_reducible apply at0); exact rfl) | ((with_reducible apply at1); exact rfl) | ((with_reducible apply at2); exact rfl) | ((with_reducible apply at3); exact rfl) | with_reducible assumption))
  | ((with_reducible refine' st_ixT ?h1 ?h2 ?_); (case h1 => kpt_turns); (case h2 => first | ((with_reducible apply at0); exact rfl) | ((with_reducible apply at1); exact rfl) | ((with_reducible apply at2); exact rfl) | with_reducible assumption))
  | ((with_reducible refine' st_ixP ?h1 ?h2 ?h3 ?h4 ?_); (case h1 => kpt_turns); (case h2 => (repeat constructor)); (case h3 => omega); (case h4 => (simp; omega)))
  | ((with_reducible refine' st_ixPT ?h1 ?h2 ?h3 ?h4 ?_); (case h1 => kpt_turns); (case h2 => (repeat constructor)); (case h3 => omega); (case h4 => (simp; omega)))
  | with_reducible refine st_tB ?_
  | with_reducible refine st_test ?_
  | with_reducible refine st_and ?_
  | with_reducible refine st_or ?_
  | with_reducible refine st_not ?_
  | with_reducible refine st_andV ?_
  | with_reducible refine st_orV ?_
  | with_reducible refine st_notV ?_
  | with_reducible refine st_chain ?_
  | with_reducible refine st_iT ?_
  | with_reducible refine st_iF ?_
  | with_reducible refine st_iNT ?_
  | with_reducible refine st_iNF ?_
  | with_reducible refine st_iRf ?_
  | with_reducible refine st_iNRf ?_
  | with_reducible refine st_asg ?_
  | ((with_reducible refine' st_parF ?e ?_); (case e => intro x y; (simp only [List.set_cons_zero, List.set_cons_succ]; exact rfl)))
  | with_reducible refine st_par2 ?_
  | with_reducible refine st_fst ?_
  | with_reducible refine st_jsE ?_
  | with_reducible refine st_js ?_
  | with_reducible refine st_fmt ?_
  | with_reducible refine st_joinK ?_
  | with_reducible refine st_strx ?_
  | ((with_reducible refine' st_par3F ?e ?_); (case e => intro x y z; (simp only [List.set_cons_zero, List.set_cons_succ]; exact rfl)))
  | with_reducible refine st_par3 ?_
  | ((with_reducible refine' st_augF ?h ?e ?_); (case h => exact rfl); (case e => intro x; (simp only [List.set_cons_zero, List.set_cons_succ]; exact rfl)))
  | with_reducible refine st_ipI ?_
  | with_reducible refine st_drop ?_
  | with_reducible refine st_next ?_
  | with_reducible refine st_un ?_
  | with_reducible refine st_U ?_
  | ((with_reducible refine' st_gNF ?e ?_); (case e => (simp only [List.set_cons_zero, List.set_cons_succ]; exact rfl)))
  | with_reducible refine st_gN ?_
  | ((with_reducible refine' st_gT ?h1 ?h2 ?_); (case h1 => kpt_turns); (case h2 => exact rfl))
  | with_reducible refine st_gC ?_
  | with_reducible refine st_gE ?_
  | with_reducible refine st_gS ?_
  | ((with_reducible refine' st_setL ?h1 ?h2 ?_); (case h1 => lcg_off); (case h2 => exact rfl))
  | with_reducible refine st_lst ?_
  | with_reducible refine st_tup ?_
  | ((with_reducible refine st_new ?h ?_); (case h => (simp; done)))
  | with_reducible refine st_callN ?_
  | with_reducible refine st_bm ?_
  | with_reducible refine st_bm0 ?_
  | ((with_reducible refine' st_tyL ?h ?_); (case h => kpt_turns))
  | ((with_reducible refine st_eq ?h ?_); (case h => exact rfl))
  | ((with_reducible refine st_ne ?h ?_); (case h => exact rfl))
  | with_reducible refine st_i1 ?_
  | with_reducible refine st_i2 ?_
  | with_reducible refine st_int ?_
  | with_reducible refine st_intb ?_
  | ((with_reducible refine' st_lenQ ?h ?_); (case h => kpt_turns))
  | ((with_reducible refine' st_lenQT ?h ?_); (case h => kpt_turns))
  | with_reducible refine st_yes ?_
  | with_reducible refine st_brk ?_
  | with_reducible refine st_cont ?_
  | with_reducible refine st_retN ?_
  | with_reducible refine st_forI ?_
  | with_reducible refine st_lcI ?_
  | with_reducible refine st_itL ?_
  | with_reducible refine st_itT ?_
  | with_reducible refine st_rng1 ?_
  | with_reducible refine st_rng2 ?_
  | with_reducible refine st_ref ?_
  | with_reducible refine st_sl ?_
  | with_reducible refine st_pN ?_
  | with_reducible refine st_pS ?_
  | with_reducible refine st_pI ?_
  | (refine ⟨rfl, ?_⟩))
local macro_rules | `(tactic| cell_call) => `(tactic| first
  | with_reducible refine st_seq ?_
  | ((with_reducible refine' st_setF ?e ?_); (case e => intro x; (simp only [List.set_cons_zero, List.set_cons_succ]; exact rfl)))
  | with_reducible refine st_c ?_
  | ((with_reducible refine' st_var ?h ?_); (case h => exact rfl))
  | with_reducible refine st_op ?_
  | with_reducible refine st_I0 ?_
  | ((with_reducible refine' st_powL ?c ?e ?_); (case c => exact ⟨by decide, by decide, by decide⟩); (case e => (simp only [Int.reduceToNat, Int.reducePow]; exact rfl)))
  | ((with_reducible refine st_I ?h ?_); (case h => first | with_reducible assumption | (show (0 : Int) < _; omega) | exact ⟨by omega, by omega⟩ | exact .inl ⟨by omega, by omega⟩ | exact .inr ⟨by omega, by omega⟩ | exact ⟨by omega, by omega, by omega⟩))
  | with_reducible refine st_nil ?_
  | with_reducible refine st_cons ?_
  | with_reducible refine st_ret ?_
  | with_reducible refine st_call ?_
  | with_reducible refine st_cb ?_
  | with_reducible refine st_exb ?_
  | ((with_reducible refine' st_ixL ?h1 ?h2 ?_); (case h1 => kpt_turns); (case h2 => first | ((with_reducible apply at0); exact rfl) | ((with_reducible apply at1); exact rfl) | ((with_reducible apply at2); exact rfl) | ((with_reducible apply at3); exact rfl) | with_reducible assumption))
  | ((with_reducible refine' st_ixT ?h1 ?h2 ?_); (case h1 => kpt_turns); (case h2 => first | ((with_reducible apply at0); exact rfl) | ((with_reducible apply at1); exact rfl) | ((with_reducible apply at2); exact rfl) | with_reducible assumption))
  | ((with_reducible refine' st_ixP ?h1 ?h2 ?h3 ?h4 ?_); (case h1 => kpt_turns); (case h2 => (repeat constructor)); (case h3 => omega); (case h4 => (simp; omega)))
  | ((with_reducible refine' st_ixPT ?h1 ?h2 ?h3 ?h4 ?_); (case h1 => kpt_turns); (case h2 => (repeat constructor)); (case h3 => omega); (case h4 => (simp; omega)))
  | with_reducible refine st_tB ?_
  | with_reducible refine st_test ?_
  | with_reducible refine st_and ?_
  | with_reducible refine st_or ?_
  | with_reducible refine st_not ?_
  | with_reducible refine st_andV ?_
  | with_reducible refine st_orV ?_
  | with_reducible refine st_notV ?_
  | with_reducible refine st_chain ?_
  | with_reducible refine st_iT ?_
  | with_reducible refine st_iF ?_
  | with_reducible refine st_iNT ?_
  | with_reducible refine st_iNF ?_
  | with_reducible refine st_iRf ?_
  | with_reducible refine st_iNRf ?_
  | with_reducible refine st_asg ?_
  | ((with_reducible refine' st_parF ?e ?_); (case e => intro x y; (simp only [List.set_cons_zero, List.set_cons_succ]; exact rfl)))
  | with_reducible refine st_par2 ?_
  | with_reducible refine st_fst ?_
  | with_reducible refine st_jsE ?_
  | with_reducible refine st_js ?_
  | with_reducible refine st_fmt ?_
  | with_reducible refine st_joinK ?_
  | with_reducible refine st_strx ?_
  | ((with_reducible refine' st_par3F ?e ?_); (case e => intro x y z; (simp only [List.set_cons_zero, List.set_cons_succ]; exact rfl)))
  | with_reducible refine st_par3 ?_
  | ((with_reducible refine' st_augF ?h ?e ?_); (case h => exact rfl); (case e => intro x; (simp only [List.set_cons_zero, List.set_cons_succ]; exact rfl)))
  | with_reducible refine st_ipI ?_
  | with_reducible refine st_drop ?_
  | with_reducible refine st_next ?_
  | with_reducible refine st_un ?_
  | with_reducible refine st_U ?_
  | ((with_reducible refine' st_gNF ?e ?_); (case e => (simp only [List.set_cons_zero, List.set_cons_succ]; exact rfl)))
  | with_reducible refine st_gN ?_
  | ((with_reducible refine' st_gT ?h1 ?h2 ?_); (case h1 => kpt_turns); (case h2 => exact rfl))
  | with_reducible refine st_gC ?_
  | with_reducible refine st_gE ?_
  | with_reducible refine st_gS ?_
  | ((with_reducible refine' st_setL ?h1 ?h2 ?_); (case h1 => lcg_off); (case h2 => exact rfl))
  | with_reducible refine st_lst ?_
  | with_reducible refine st_tup ?_
  | ((with_reducible refine st_new ?h ?_); (case h => (simp; done)))
  | with_reducible refine st_callN ?_
  | with_reducible refine st_bm ?_
  | with_reducible refine st_bm0 ?_
  | ((with_reducible refine' st_tyL ?h ?_); (case h => kpt_turns))
  | ((with_reducible refine st_eq ?h ?_); (case h => exact rfl))
  | ((with_reducible refine st_ne ?h ?_); (case h => exact rfl))
  | with_reducible refine st_i1 ?_
  | with_reducible refine st_i2 ?_
  | with_reducible refine st_int ?_
  | with_reducible refine st_intb ?_
  | ((with_reducible refine' st_lenQ ?h ?_); (case h => kpt_turns))
  | ((with_reducible refine' st_lenQT ?h ?_); (case h => kpt_turns))
  | with_reducible refine st_yes ?_
  | with_reducible refine st_brk ?_
  | with_reducible refine st_cont ?_
  | with_reducible refine st_retN ?_
  | with_reducible refine st_forI ?_
  | with_reducible refine st_lcI ?_
  | with_reducible refine st_itL ?_
  | with_reducible refine st_itT ?_
  | with_reducible refine st_rng1 ?_
  | with_reducible refine st_rng2 ?_
  | with_reducible refine st_ref ?_
  | with_reducible refine st_sl ?_
  | with_reducible refine st_pN ?_
  | with_reducible refine st_pS ?_
  | with_reducible refine st_pI ?_
  | (refine ⟨rfl, ?_⟩)
  | with_reducible refine st_ifE ?_
  | with_reducible refine st_ifS ?_)
local macro_rules | `(tactic| kpf_close) => `(tactic| first
  | cell_call
  | refine st_iD (fun _ => ?_) (fun _ => ?_)
  | refine st_iND (fun _ => ?_) (fun _ => ?_)
  | refine st_iNB (fun _ => ?_) (fun _ => ?_)
  | refine st_iB (fun _ => ?_) (fun _ => ?_))
local macro_rules | `(tactic| k_places) => `(tactic| first
  | with_reducible refine isi_non_bool ?_
  | with_reducible refine isi_non_int ?_
  | with_reducible refine isi_non_str ?_
  | with_reducible refine isi_non_list ?_
  | with_reducible refine isi_non_tuple ?_
  | with_reducible refine isi_bl_bool ?_
  | with_reducible refine isi_bl_int ?_
  | with_reducible refine isi_bl_str ?_
  | with_reducible refine isi_bl_list ?_
  | with_reducible refine isi_bl_tuple ?_
  | with_reducible refine isi_int_bool ?_
  | with_reducible refine isi_int_int ?_
  | with_reducible refine isi_int_str ?_
  | with_reducible refine isi_int_list ?_
  | with_reducible refine isi_int_tuple ?_
  | with_reducible refine isi_str_bool ?_
  | with_reducible refine isi_str_int ?_
  | with_reducible refine isi_str_str ?_
  | with_reducible refine isi_str_list ?_
  | with_reducible refine isi_str_tuple ?_
  | ((with_reducible refine' isi_list_bool ?h ?_); (case h => kpt_turns))
  | ((with_reducible refine' isi_list_int ?h ?_); (case h => kpt_turns))
  | ((with_reducible refine' isi_list_str ?h ?_); (case h => kpt_turns))
  | ((with_reducible refine' isi_list_list ?h ?_); (case h => kpt_turns))
  | ((with_reducible refine' isi_list_tuple ?h ?_); (case h => kpt_turns))
  | ((with_reducible refine' isi_tuple_bool ?h ?_); (case h => kpt_turns))
  | ((with_reducible refine' isi_tuple_int ?h ?_); (case h => kpt_turns))
  | ((with_reducible refine' isi_tuple_str ?h ?_); (case h => kpt_turns))
  | ((with_reducible refine' isi_tuple_list ?h ?_); (case h => kpt_turns))
  | ((with_reducible refine' isi_tuple_tuple ?h ?_); (case h => kpt_turns)))
section
variable {P : Program} {w : World} {K : PySem.W.Frag} {mg : Str → Option Value} {base : Heap}
/-- wake j within zip -/
theorem nextOf_R {X : Cx} {pins : List (Addr × Obj)} {σ : L2.St} {H : Hp} {s₁ : Shared} {A : Around} {E : Value → Shared → Prop} {D : Addr} {s : Dt} {k : Int} {F : Nat} {a n f : Addr} {cd : Value} {g j : Nat} (hd : A.handled = none) (hA : A.depth < recursionLimit)
    (I : Inv X pins σ H s₁) (fn : FpOk X pins H n) (fa : FpOk X pins H a) (an : n < a) (T : (rgd X.base X.stack n F X.s_0.os f cd D s k).TN X.prog X.w A.in1 a g j s₁) (hD : H D = some (.tup (dT s))) (hj : j < F) :
    wpAny (model X.prog X.w) A (Builtin.SmallTypes.nextOf (.ref a)) (fun u s2 => ∃ t, u = .ref t ∧ H t = none ∧ s₁.heap.get? t = none ∧ Inv X pins σ (upd H t (.tup (dT (rst s k j)))) s2 ∧ (rgd X.base X.stack n F X.s_0.os f cd D s k).TN X.prog X.w A.in1 a g (j + 1) s2 ∧ (∀ i, i ≠ g → s2.gens[i]? = s₁.gens[i]?) ∧
      Gn.Kp n X.stack s₁.heap s2.heap ∧ ∀ b, s₁.heap.get? b ≠ none → b ≠ t) E s₁ := by
  obtain ⟨on, en, _⟩ := own_obj T.2.1
  obtain ⟨oa, ea, _⟩ := gen_obj T.1
  have low : ∀ b ∈ frs X.stack, b ≠ a := fun b hb z => by
    rcases List.mem_cons.mp (I.stkSub b hb) with e | e
    · exact fa.2.1 (z.symm.trans e)
    · exact fa.2.2.1 (z ▸ e)
  refine Gn.Gd.nextOf T hd hA I.nolimit hj ⟨I.bk, Nat.lt_of_lt_of_le an (Nat.le_of_lt (Heap.lt_size ea)), I.stack, I.bare⟩ I.os (I.hok D _ hD) (Nat.ne_of_gt an) (fun z => low a z rfl) (fun v s2 kp os bare oth T2 jt => ?_) fun _ s2 _ _ _ _ ⟨_, z, _⟩ => z.elim
  obtain ⟨t, rfl, nt, tup⟩ := jt
  have ht : H t = none := by
    cases q : H t with
    | none => rfl
    | some u =>
      have z : ∃ o, s₁.heap.get? t = some o := Gn.obj_some (I.hok t u q)
      obtain ⟨o, z⟩ := z
      rw [nt] at z
      cases z
  refine ⟨t, rfl, ht, nt, ?_, T2, oth, kp, fun b hb z => hb (by rw [z]; exact nt)⟩
  refine Gn.inv_fed I kp os bare fn (fun b u e => ?_) fun b u e e2 => ?_
  · have ne : b ≠ t := fun z => by
      rw [z, ht] at e
      cases e
    rw [upd_ne ne]
    exact e
  · by_cases hb : b = t
    · subst hb
      rw [upd_same] at e
      cases e
      exact ⟨nt, tup⟩
    · rw [upd_ne hb, e2] at e
      cases e
/-- the state of zip(range(m), g1, g2) before turn i -/
structure StZ (P : Program) (w : World) (A : Around) (base : Heap) (outer : List Env) (os : OsState) (D : Addr) (s : Dt) (k : Int) (F m : Nat) (z n1 a1 g1 f1 n2 a2 g2 f2 : Nat) (cd1 cd2 : Value) (i : Nat) (sh : Shared) : Prop where
  le : i ≤ m
  zip : IsZip sh.heap (z + 3) (z + 1) (z + 2) .none
  ti : IsTupOf3 sh.heap (z + 1) (.ref z) (.ref a1) (.ref a2)
  to : ∃ b1 b2 b3, IsTupOf3 sh.heap (z + 2) b1 b2 b3
  it : IsRangeIter sh.heap z i (m - i) 1
  t1 : (rgd base outer n1 F os f1 cd1 D s k).TN P w A a1 g1 i sh
  t2 : (rgd base outer n2 F os f2 cd2 D s k).TN P w A a2 g2 i sh
abbrev fpZ (z n1 a1 n2 a2 : Addr) : List Addr := [z, z + 1, z + 2, z + 3, n1, a1, n2, a2]
theorem nqx {a b : Nat} (h : a ≠ b) : @Ne Addr a b := h
def ItZ (D : Addr) (s : Dt) (k : Int) (m : Nat) : It := ⟨fun i H => H D = some (.tup (dT s)) ∧ i < m,
  fun i H x H' => ∃ T t1 t2, x = .ref T ∧ H t1 = none ∧ (upd H t1 (.tup (dT (rst s k i)))) t2 = none ∧ (upd (upd H t1 (.tup (dT (rst s k i)))) t2 (.tup (dT (rst s k i)))) T = none ∧ H' = upd (upd (upd H t1 (.tup (dT (rst s k i)))) t2 (.tup (dT (rst s k i)))) T (.tup [.int i, .ref t1, .ref t2]), fun i _ => m ≤ i⟩
theorem kp_at {X : Cx} {pins : List (Addr × Obj)} {σ : L2.St} {H H1 : Hp} {s₁ : Shared} {n b : Addr} {h h' : Heap} {o : Obj} (I : Inv X pins σ H1 s₁) (k : Gn.Kp n X.stack h h') (f : FpOk X pins H b) (ne : b ≠ n) (e : h.get? b = some o) : h'.get? b = some o := by
  refine (k b o e ne).1 fun hb => ?_
  rcases List.mem_cons.mp (I.stkSub b hb) with q | q
  · exact f.2.1 q
  · exact f.2.2.1 q
theorem own_at {base : Heap} {outer : List Env} {n F : Nat} {os : OsState} {f : Addr} {cd : Value} {D : Addr} {s : Dt} {k : Int} {j : Nat} {h h' : Heap} (kp : ∀ o, h.get? n = some o → h'.get? n = some o) (o : (rgd base outer n F os f cd D s k).Own j h) : (rgd base outer n F os f cd D s k).Own j h' :=
  Gn.Lc.keep o (fun x => by
    show (cellsFrom (n + 1) (defScope s_renewal_dates).names []).lookup x = none
    rw [Gn.cells_none _ _ _ fun y hy => (plain_R y hy).1]
    rfl) kp
theorem item_Z {X : Cx} (hc : X.calm = true) (hA : X.A.depth < recursionLimit) {D : Addr} {s : Dt} {k : Int} {F m : Nat} {z n1 a1 g1 f1 n2 a2 g2 f2 : Nat} {cd1 cd2 : Value} (l1 : n1 < a1) (l2 : a1 < n2) (l3 : n2 < a2) (l4 : a2 < z) (gne : g1 ≠ g2) (hF : m ≤ F) {elts : List Expr} {kk : Nat} {tp : Pos}
    {i : Nat} {pins : List (Addr × Obj)} {sh : Shared} {σ : L2.St} {H : Hp} {E : Value → Shared → Prop} (I : Inv X pins σ H sh) (fp : ∀ b ∈ fpZ z n1 a1 n2 a2, FpOk X pins H b) (S : StZ X.prog X.w X.A.in1.in1 X.base X.stack X.s_0.os D s k F m z n1 a1 g1 f1 n2 a2 g2 f2 cd1 cd2 i sh) (go : (ItZ D s k m).go i H) :
    wpAny (model X.prog X.w) X.A (pyNext (.ref (z + 3))) (fun r s1 => ∃ u, r = some u ∧ wpAny (model X.prog X.w) X.A (letOwnedTupleGo (.Tuple elts kk tp) (.ref (z + 3)) u) (fun _ s2 => ∃ x H', Inv X pins σ H' s2 ∧ RelV x u ∧ (ItZ D s k m).yld i H x H' ∧
      StZ X.prog X.w X.A.in1.in1 X.base X.stack X.s_0.os D s k F m z n1 a1 g1 f1 n2 a2 g2 f2 cd1 cd2 (i + 1) s2 ∧ ∀ b ∈ fpZ z n1 a1 n2 a2, H' b = none) E s1) E sh := by
  obtain ⟨le, zip, ti, ⟨c1, c2, c3, to⟩, it, T1, T2⟩ := S
  obtain ⟨hD, lt⟩ := go
  have fz := fp z (by simp)
  have fTI := fp (z + 1) (by simp)
  have fTO := fp (z + 2) (by simp)
  have fZ := fp (z + 3) (by simp)
  have fn1 := fp n1 (by simp)
  have fa1 := fp a1 (by simp)
  have fn2 := fp n2 (by simp)
  have fa2 := fp a2 (by simp)
  have hd : X.A.in1.handled = none := I.ok.hd hc
  have hA' : X.A.in1.depth < recursionLimit := hA
  have tk : ∀ {n a g f j : Nat} {cd : Value} {p q : Shared}, (rgd X.base X.stack n F X.s_0.os f cd D s k).TN X.prog X.w X.A.in1.in1 a g j p → (∀ o, p.heap.get? a = some o → q.heap.get? a = some o) → (∀ o, p.heap.get? n = some o → q.heap.get? n = some o) → q.gens[g]? = p.gens[g]? →
      (rgd X.base X.stack n F X.s_0.os f cd D s k).TN X.prog X.w X.A.in1.in1 a g j q := fun {n a g f j cd p q} T ha hn hg => Gn.Gd.TN.at T ha (own_at hn) hg
  obtain ⟨hp, gg, dd, tk0, os0⟩ := sh
  refine Gn.zip3_go zip ti fun h0 hz0 sb0 => ?_
  replace sb0 : Heap.SameBut (z + 3) hp h0 := sb0
  have I0 : Inv X pins σ H ⟨h0, gg, dd, tk0, os0⟩ := I.turned (t' := tk0) (fun b o ne e => sb0.extBut b o ne e) fZ.1 fZ.2.1 fZ.2.2.2.1 fZ.2.2.2.2.1 fZ.2.2.2.2.2
  refine Gn.nextOf_range_item (x := i) (left := m - i) (step := 1) (sb0.extBut _ _ (nqx (by omega)) it) (by omega) fun h1 it1 sb1 => ?_
  replace sb1 : Heap.SameBut z h0 h1 := sb1
  refine ⟨c1, c2, c3, sb1.extBut _ _ (nqx (by omega)) (sb0.extBut _ _ (nqx (by omega)) to), fun e1 to1 sb2 => ?_⟩
  replace sb2 : Heap.SameBut (z + 2) h1 e1 := sb2
  have I1 : Inv X pins σ H ⟨h1, gg, dd, tk0 + 1, os0⟩ := I0.turned (t' := tk0 + 1) (fun b o ne e => sb1.extBut b o ne e) fz.1 fz.2.1 fz.2.2.2.1 fz.2.2.2.2.1 fz.2.2.2.2.2
  have I2 : Inv X pins σ H ⟨e1, gg, dd, tk0 + 1, os0⟩ := I1.turned (t' := tk0 + 1) (fun b o ne e => sb2.extBut b o ne e) fTO.1 fTO.2.1 fTO.2.2.2.1 fTO.2.2.2.2.1 fTO.2.2.2.2.2
  have up : ∀ b o, b ≠ z + 3 → b ≠ z → b ≠ z + 2 → hp.get? b = some o → e1.get? b = some o := fun b o q1 q2 q3 e => sb2.extBut _ _ q3 (sb1.extBut _ _ q2 (sb0.extBut _ _ q1 e))
  have U1 := tk (q := ⟨e1, gg, dd, tk0 + 1, os0⟩) T1 (fun o => up _ o (by omega) (by omega) (by omega)) (fun o => up _ o (by omega) (by omega) (by omega)) rfl
  refine thn (nextOf_R (A := X.A.in1) hd hA' I2 fn1 fa1 l1 U1 hD (Nat.lt_of_lt_of_le lt hF)) fun u1 s2 ⟨t1, eu1, ht1, nt1, I3, V1, oth1, kp1, ne1⟩ => ?_
  subst eu1
  replace nt1 : e1.get? t1 = none := nt1
  obtain ⟨h2, gg2, dd2, tk2, os2⟩ := s2
  replace kp1 : Gn.Kp n1 X.stack e1 h2 := kp1
  replace oth1 : ∀ i, i ≠ g1 → gg2[i]? = gg[i]? := oth1
  have K1 : ∀ b o, b ∈ fpZ z n1 a1 n2 a2 → b ≠ n1 → e1.get? b = some o → h2.get? b = some o := fun b o hb ne e => kp_at I2 kp1 (fp b hb) ne e
  have f1 : ∀ b ∈ fpZ z n1 a1 n2 a2, (∃ o, e1.get? b = some o) → FpOk X pins (upd H t1 (.tup (dT (rst s k i)))) b := fun b hb ⟨o, e⟩ => ⟨by
    rw [upd_ne fun q => by
      rw [q, nt1] at e
      cases e]
    exact (fp b hb).1, (fp b hb).2⟩
  have zip1 : IsZip e1 (z + 3) (z + 1) (z + 2) .ellipsis := sb2.extBut _ _ (nqx (by omega)) (sb1.extBut _ _ (nqx (by omega)) hz0)
  have ti1 : IsTupOf3 e1 (z + 1) (.ref z) (.ref a1) (.ref a2) := up _ _ (by omega) (by omega) (by omega) ti
  have it2 : IsRangeIter e1 z (i + 1) (m - i - 1) 1 := sb2.extBut _ _ (nqx (by omega)) it1
  have gfTO := f1 (z + 2) (by simp) ⟨_, to1⟩
  refine ⟨K1 _ _ (by simp) (nqx (by omega)) to1, fun e2 to2 sb3 => ?_⟩
  replace sb3 : Heap.SameBut (z + 2) h2 e2 := sb3
  have I4 : Inv X pins σ _ ⟨e2, gg2, dd2, tk2, os2⟩ := I3.turned (t' := tk2) (fun b o ne e => sb3.extBut b o ne e) gfTO.1 gfTO.2.1 gfTO.2.2.2.1 gfTO.2.2.2.2.1 gfTO.2.2.2.2.2
  have oth1' : gg2[g2]? = gg[g2]? := oth1 g2 (Ne.symm gne)
  have U2 := tk (q := ⟨e2, gg2, dd2, tk2, os2⟩) T2 (fun o e => sb3.extBut _ _ (nqx (by omega)) (K1 _ _ (by simp) (nqx (by omega)) (up _ o (by omega) (by omega) (by omega) e))) (fun o e => sb3.extBut _ _ (nqx (by omega)) (K1 _ _ (by simp) (nqx (by omega)) (up _ o (by omega) (by omega) (by omega) e))) oth1'
  obtain ⟨oa2, ea2, _⟩ := gen_obj T2.1
  obtain ⟨on2, en2, _⟩ := own_obj T2.2.1
  obtain ⟨oa1, ea1, _⟩ := gen_obj V1.1
  obtain ⟨on1, en1, _⟩ := own_obj V1.2.1
  have fn2' := f1 n2 (by simp) ⟨_, up _ _ (by omega) (by omega) (by omega) en2⟩
  have fa2' := f1 a2 (by simp) ⟨_, up _ _ (by omega) (by omega) (by omega) ea2⟩
  have hD1 : (upd H t1 (.tup (dT (rst s k i)))) D = some (.tup (dT s)) := by
    rw [upd_ne fun q => by
      rw [q, ht1] at hD
      cases hD]
    exact hD
  refine thn (nextOf_R (A := X.A.in1) hd hA' I4 fn2' fa2' l3 U2 hD1 (Nat.lt_of_lt_of_le lt hF)) fun u2 s3 ⟨t2, eu2, ht2, nt2, I5, V2, oth2, kp2, ne2⟩ => ?_
  subst eu2
  replace nt2 : e2.get? t2 = none := nt2
  obtain ⟨h3, gg3, dd3, tk3, os3⟩ := s3
  replace kp2 : Gn.Kp n2 X.stack e2 h3 := kp2
  replace oth2 : ∀ i, i ≠ g2 → gg3[i]? = gg2[i]? := oth2
  have K2 : ∀ b o, b ∈ fpZ z n1 a1 n2 a2 → b ≠ n2 → e2.get? b = some o → h3.get? b = some o := fun b o hb ne e => kp_at I4 kp2 (fp b hb) ne e
  have f2 : ∀ b ∈ fpZ z n1 a1 n2 a2, (∃ o, e1.get? b = some o) → (∃ o, e2.get? b = some o) → FpOk X pins (upd (upd H t1 (.tup (dT (rst s k i)))) t2 (.tup (dT (rst s k i)))) b := fun b hb q1 ⟨o, e⟩ => ⟨by
    rw [upd_ne fun q => by
      rw [q, nt2] at e
      cases e]
    exact (f1 b hb q1).1, (fp b hb).2⟩
  have gfTO2 := f2 (z + 2) (by simp) ⟨_, to1⟩ ⟨_, to2⟩
  have zip2 : IsZip e2 (z + 3) (z + 1) (z + 2) .ellipsis := sb3.extBut _ _ (nqx (by omega)) (K1 _ _ (by simp) (nqx (by omega)) zip1)
  have ti2 : IsTupOf3 e2 (z + 1) (.ref z) (.ref a1) (.ref a2) := sb3.extBut _ _ (nqx (by omega)) (K1 _ _ (by simp) (nqx (by omega)) ti1)
  have it3 : IsRangeIter e2 z (i + 1) (m - i - 1) 1 := sb3.extBut _ _ (nqx (by omega)) (K1 _ _ (by simp) (nqx (by omega)) it2)
  refine ⟨K2 _ _ (by simp) (nqx (by omega)) to2, fun e3 to3 sb4 => ?_⟩
  replace sb4 : Heap.SameBut (z + 2) h3 e3 := sb4
  have I6 : Inv X pins σ _ ⟨e3, gg3, dd3, tk3, os3⟩ := I5.turned (t' := tk3) (fun b o ne e => sb4.extBut b o ne e) gfTO2.1 gfTO2.2.1 gfTO2.2.2.2.1 gfTO2.2.2.2.2.1 gfTO2.2.2.2.2.2
  have zip3 : IsZip e3 (z + 3) (z + 1) (z + 2) .ellipsis := sb4.extBut _ _ (nqx (by omega)) (K2 _ _ (by simp) (nqx (by omega)) zip2)
  have ti3 : IsTupOf3 e3 (z + 1) (.ref z) (.ref a1) (.ref a2) := sb4.extBut _ _ (nqx (by omega)) (K2 _ _ (by simp) (nqx (by omega)) ti2)
  have it4 : IsRangeIter e3 z (i + 1) (m - i - 1) 1 := sb4.extBut _ _ (nqx (by omega)) (K2 _ _ (by simp) (nqx (by omega)) it3)
  refine ⟨zip3, fun h' zip4 tup4 kp4 => ⟨_, rfl, ?_⟩⟩
  refine wpAny_letOwnedTupleGo_zip zip4 fun h'' zip5 sb5 => ?_
  replace sb5 : Heap.SameBut (z + 3) h' h'' := sb5
  have zl : z + 3 < e3.objs.size := Heap.lt_size zip3
  have k5 : ∀ b o, b ≠ z + 3 → e3.get? b = some o → h''.get? b = some o := fun b o ne e => sb5.extBut _ _ ne (kp4 b o ne e)
  have gfZ := f2 (z + 3) (by simp) ⟨_, zip1⟩ ⟨_, zip2⟩
  have new : ObjOk X.prog X.w (upd (upd (upd H t1 (.tup (dT (rst s k i)))) t2 (.tup (dT (rst s k i)))) e3.objs.size (.tup [.int i, .ref t1, .ref t2])) h'' e3.objs.size (.tup [.int i, .ref t1, .ref t2]) :=
    ⟨by show 3 ≤ sizeLine; decide, [_, .ref t1, .ref t2], .cons ⟨_, rfl⟩ (.cons rfl (.cons rfl .nil)), ⟨_, sb5.extBut _ _ (Nat.ne_of_gt zl) tup4, rfl, _, rfl⟩⟩
  have I7 : Inv X pins σ (upd (upd (upd H t1 (.tup (dT (rst s k i)))) t2 (.tup (dT (rst s k i)))) e3.objs.size (.tup [.int i, .ref t1, .ref t2])) ⟨h'', gg3, dd3, tk3, os3⟩ :=
    I6.turnedNew (t' := tk3) (ch := [z + 3]) (fun b o hb e => k5 b o (by simpa using hb) e) (fun b hb => by
      obtain rfl : b = z + 3 := by simpa using hb
      exact gfZ) (Nat.le_refl _) new
  have up2 : ∀ b o, b ∈ fpZ z n1 a1 n2 a2 → b ≠ n2 → b ≠ z + 2 → b ≠ z + 3 → h2.get? b = some o → h''.get? b = some o := fun b o hb q1 q2 q3 e => k5 _ _ q3 (sb4.extBut _ _ q2 (K2 _ _ hb q1 (sb3.extBut _ _ q2 e)))
  have up3 : ∀ b o, b ≠ z + 2 → b ≠ z + 3 → h3.get? b = some o → h''.get? b = some o := fun b o q2 q3 e => k5 _ _ q3 (sb4.extBut _ _ q2 e)
  obtain ⟨oa2', ea2', _⟩ := gen_obj V2.1
  obtain ⟨on2', en2', _⟩ := own_obj V2.2.1
  have oth2' : gg3[g1]? = gg2[g1]? := oth2 g1 gne
  refine ⟨.ref e3.objs.size, _, I7, rfl, ⟨_, t1, t2, rfl, ht1, ht2, I6.hok.fresh (Nat.le_refl _), rfl⟩, ⟨lt, zip5, k5 _ _ (nqx (by omega)) ti3, ⟨_, _, _, k5 _ _ (nqx (by omega)) to3⟩, ?_, tk V1 (fun o => up2 _ o (by simp) (nqx (by omega)) (nqx (by omega)) (nqx (by omega))) (fun o => up2 _ o (by simp) (nqx (by omega)) (nqx (by omega)) (nqx (by omega))) oth2', tk V2 (fun o => up3 _ o (nqx (by omega)) (nqx (by omega))) (fun o => up3 _ o (nqx (by omega)) (nqx (by omega))) rfl⟩, fun b hb => ?_⟩
  · have e1 : ((i + 1 : Nat) : Int) = (i : Int) + 1 := by omega
    have e2 : (m : Int) - ((i + 1 : Nat) : Int) = (m : Int) - i - 1 := by omega
    rw [e1] at *
    have z5 : IsRangeIter h'' z (i + 1) (m - i - 1) 1 := k5 _ _ (nqx (by omega)) it4
    have e3 : (m : Int) - ((i : Int) + 1) = (m : Int) - i - 1 := by omega
    rw [e3]
    exact z5
  · have q1 : ∃ o, e1.get? b = some o := by
      simp only [List.mem_cons, List.not_mem_nil, or_false] at hb
      rcases hb with q | q | q | q | q | q | q | q <;> subst q
      · exact ⟨_, it2⟩
      · exact ⟨_, ti1⟩
      · exact ⟨_, to1⟩
      · exact ⟨_, zip1⟩
      · obtain ⟨o, e, _⟩ := own_obj U1.2.1
        exact ⟨o, e⟩
      · obtain ⟨o, e, _⟩ := gen_obj U1.1
        exact ⟨o, e⟩
      · exact ⟨_, up _ _ (by omega) (by omega) (by omega) en2⟩
      · exact ⟨_, up _ _ (by omega) (by omega) (by omega) ea2⟩
    have q2 : ∃ o, e2.get? b = some o := by
      simp only [List.mem_cons, List.not_mem_nil, or_false] at hb
      rcases hb with q | q | q | q | q | q | q | q <;> subst q
      · exact ⟨_, it3⟩
      · exact ⟨_, ti2⟩
      · exact ⟨_, to2⟩
      · exact ⟨_, zip2⟩
      · exact ⟨_, sb3.extBut _ _ (nqx (by omega)) en1⟩
      · exact ⟨_, sb3.extBut _ _ (nqx (by omega)) ea1⟩
      · obtain ⟨o, e, _⟩ := own_obj U2.2.1
        exact ⟨o, e⟩
      · obtain ⟨o, e, _⟩ := gen_obj U2.1
        exact ⟨o, e⟩
    have q3 : ∃ o, e3.get? b = some o := by
      simp only [List.mem_cons, List.not_mem_nil, or_false] at hb
      rcases hb with q | q | q | q | q | q | q | q <;> subst q
      · exact ⟨_, it4⟩
      · exact ⟨_, ti3⟩
      · exact ⟨_, to3⟩
      · exact ⟨_, zip3⟩
      · exact ⟨_, sb4.extBut _ _ (nqx (by omega)) (K2 _ _ (by simp) (nqx (by omega)) (sb3.extBut _ _ (nqx (by omega)) en1))⟩
      · exact ⟨_, sb4.extBut _ _ (nqx (by omega)) (K2 _ _ (by simp) (nqx (by omega)) (sb3.extBut _ _ (nqx (by omega)) ea1))⟩
      · exact ⟨_, sb4.extBut _ _ (nqx (by omega)) en2'⟩
      · exact ⟨_, sb4.extBut _ _ (nqx (by omega)) ea2'⟩
    obtain ⟨o, q3⟩ := q3
    rw [upd_ne (Nat.ne_of_lt (Heap.lt_size q3))]
    exact (f2 b hb q1 q2).1
theorem done_Z {X : Cx} (hc : X.calm = true) {D : Addr} {s : Dt} {k : Int} {F m : Nat} {z n1 a1 g1 f1 n2 a2 g2 f2 : Nat} {cd1 cd2 : Value}
    {i : Nat} {pins : List (Addr × Obj)} {sh : Shared} {σ : L2.St} {H : Hp} {E : Value → Shared → Prop} (I : Inv X pins σ H sh) (fp : ∀ b ∈ fpZ z n1 a1 n2 a2, FpOk X pins H b) (S : StZ X.prog X.w X.A.in1.in1 X.base X.stack X.s_0.os D s k F m z n1 a1 g1 f1 n2 a2 g2 f2 cd1 cd2 i sh) (hs : (ItZ D s k m).stop i H) :
    wpAny (model X.prog X.w) X.A (pyNext (.ref (z + 3))) (fun r s1 => r = none ∧ Inv X pins σ H s1) E sh := by
  obtain ⟨le, zip, ti, _, it, _, _⟩ := S
  have hs' : m ≤ i := hs
  have fz := fp z (by simp)
  have fZ := fp (z + 3) (by simp)
  obtain ⟨hp, gg, dd, tk0, os0⟩ := sh
  refine Gn.zip3_stop zip ti fun h0 hz0 sb0 => ?_
  replace sb0 : Heap.SameBut (z + 3) hp h0 := sb0
  have I0 : Inv X pins σ H ⟨h0, gg, dd, tk0, os0⟩ := I.turned (t' := tk0) (fun b o ne e => sb0.extBut b o ne e) fZ.1 fZ.2.1 fZ.2.2.2.1 fZ.2.2.2.2.1 fZ.2.2.2.2.2
  refine Gn.nextOf_range_end (x := i) (left := m - i) (step := 1) (A := X.A.in1) (I.ok.hd hc) (sb0.extBut _ _ (nqx (by omega)) it) (by omega) fun h1 e ext he => ?_
  replace ext : Heap.ExtBut z h0 h1 := ext
  have I1 : Inv X pins σ H ⟨h1, gg, dd, tk0, os0⟩ := I0.turned (t' := tk0) (fun b o ne e => ext b o ne e) fz.1 fz.2.1 fz.2.2.2.1 fz.2.2.2.2.1 fz.2.2.2.2.2
  refine ⟨e, rfl, he, ext _ _ (nqx (by omega)) hz0, fun h2 sb2 => ⟨rfl, ?_⟩⟩
  replace sb2 : Heap.SameBut (z + 3) h1 h2 := sb2
  exact I1.turned (t' := tk0) (fun b o ne e => sb2.extBut b o ne e) fZ.1 fZ.2.1 fZ.2.2.2.1 fZ.2.2.2.2.1 fZ.2.2.2.2.2
theorem obj_Z {P : Program} {w : World} {A : Around} {base : Heap} {outer : List Env} {os : OsState} {D : Addr} {s : Dt} {k : Int} {F m : Nat} {z n1 a1 g1 f1 n2 a2 g2 f2 : Nat} {cd1 cd2 : Value} {i : Nat} {sh : Shared} (S : StZ P w A base outer os D s k F m z n1 a1 g1 f1 n2 a2 g2 f2 cd1 cd2 i sh) :
    ∀ b ∈ fpZ z n1 a1 n2 a2, ∃ o, sh.heap.get? b = some o ∧ ∀ v, o.data ≠ .cell v := by
  intro b hb
  obtain ⟨_, zip, ti, ⟨_, _, _, to⟩, it, T1, T2⟩ := S
  simp only [List.mem_cons, List.not_mem_nil, or_false] at hb
  rcases hb with q | q | q | q | q | q | q | q <;> subst q
  · exact ⟨_, it, fun v q => nomatch q⟩
  · exact ⟨_, ti, fun v q => nomatch q⟩
  · exact ⟨_, to, fun v q => nomatch q⟩
  · exact ⟨_, zip, fun v q => nomatch q⟩
  · exact own_obj T1.2.1
  · exact gen_obj T1.1
  · exact own_obj T2.2.1
  · exact gen_obj T2.1
theorem turn_Z {X : Cx} (hc : X.calm = true) (hA : X.A.depth < recursionLimit) {D : Addr} {s : Dt} {k : Int} {F m : Nat} {z n1 a1 g1 f1 n2 a2 g2 f2 : Nat} {cd1 cd2 : Value} (l1 : n1 < a1) (l2 : a1 < n2) (l3 : n2 < a2) (l4 : a2 < z) (gne : g1 ≠ g2) (hF : m ≤ F) {elts : List Expr} {kk : Nat} {tp : Pos} :
    Gn.TurnZ X (.Tuple elts kk tp) (ItZ D s k m) (fpZ z n1 a1 n2 a2) (z + 3) (fun i sh => StZ X.prog X.w X.A.in1.in1 X.base X.stack X.s_0.os D s k F m z n1 a1 g1 f1 n2 a2 g2 f2 cd1 cd2 i sh) where
  obj := fun i s S => obj_Z S
  same := fun i s s' S kp kg => by
    obtain ⟨le, zip, ti, ⟨_, _, _, to⟩, it, T1, T2⟩ := S
    exact ⟨le, kp _ (by simp) _ zip, kp _ (by simp) _ ti, ⟨_, _, _, kp _ (by simp) _ to⟩, kp _ (by simp) _ it, Gn.Gd.TN.at T1 (kp _ (by simp)) (own_at (kp _ (by simp))) (by rw [kg]), Gn.Gd.TN.at T2 (kp _ (by simp)) (own_at (kp _ (by simp))) (by rw [kg])⟩
  keep := fun i s s' hi S kp ks => by
    obtain ⟨le, zip, ti, ⟨_, _, _, to⟩, it, T1, T2⟩ := S
    exact ⟨le, kp _ (by simp) _ zip, kp _ (by simp) _ ti, ⟨_, _, _, kp _ (by simp) _ to⟩, kp _ (by simp) _ it, T1.keep hi (kp _ (by simp)) (own_at (kp _ (by simp))) ks, T2.keep hi (kp _ (by simp)) (own_at (kp _ (by simp))) ks⟩
  item := fun Y hP hw hK hb hAA hst hcc ho i pins sh σ H E I fp S go => by
    rw [← hP, ← hw, ← hb, ← hst, ← ho, ← hAA] at S ⊢
    rw [← hAA] at hA
    exact item_Z hcc hA l1 l2 l3 l4 gne hF I fp S go
  done := fun Y hP hw hK hb hAA hst hcc ho i pins sh σ H E I fp S go => by
    rw [← hP, ← hw, ← hb, ← hst, ← ho, ← hAA] at S
    rw [← hP, ← hw, ← hAA]
    exact done_Z hcc I fp S go
  self := fun s Q E S q => wpAny_pyIter_zip S.zip q
def iZR (ta t1 t2 : TA) : TI := fun σ H R => ta σ H fun vs H1 => ∃ m : Nat, vs = [.int m] ∧ m ≤ 6000 ∧ t1 σ H1 fun vs H2 => ∃ D s k, vs = [.ref D, .int k] ∧ H2 D = some (.tup (dT s)) ∧ okS s ∧ t2 σ H2 fun vs H3 => vs = [.ref D, .int k] ∧ H3 D = some (.tup (dT s)) ∧ R (ItZ D s k m) H3
/-- zip(range(m), renewal_dates(..), renewal_dates(..)) -/
theorem piz_R {X : Cx} (T : Txt K mg) (hK : X.K = K) (hm : X.mg = mg) (hr : Room 8 X.A) (hc : X.calm = true) {c e1 e2 e3 e4 : Expr} {ta t1 t2 : TA} {p p0 p1 p2 q0 q1 q2 pos tp : Pos} {elts : List Expr} {kk : Nat} (gz : Gl X "zip") (gr : Gl X "range") (hg : Gl X "renewal_dates") (mz : mg "zip" = none) (mr : mg "range" = none)
    (h0 : PA X [c] ta) (h1 : PA X [e1, e2] t1) (h2 : Gk.PA X [e3, e4] t2) (s0 : starEach [c] X.env = [(false, eval c X.env)] := by rfl)
    (he1 : starEach [e1, e2] X.env = (false, eval e1 X.env) :: starEach [e2] X.env := by rfl) (hp1 : (backTo q1 (starEach [e2] X.env)).any (·.1) = false := by rfl) (he2 : starEach [e3, e4] X.env = (false, eval e3 X.env) :: starEach [e4] X.env := by rfl) (hp2 : (backTo q2 (starEach [e4] X.env)).any (·.1) = false := by rfl) :
    Gn.PIZ X (.Tuple elts kk tp) (.Call (.Name "zip" p) [.Call (.Name "range" p0) [c] [] q0, .Call (.Name "renewal_dates" p1) [e1, e2] [] q1, .Call (.Name "renewal_dates" p2) [e3, e4] [] q2] [] pos) (iZR ta t1 t2) := by
  subst hK hm
  intro pins s₁ σ H R I h
  refine PyProof.Rows.Call_ (ld_blt I gz mz PyProof.Rows.boot_zip (PyProof.Rows.callWith_type1 ?_ rfl rfl))
  refine PyProof.Rows.args_cons (PyProof.Rows.Call_ (ld_blt I gr mr boot_range (PyProof.Rows.callWith_type1 (thn (h0.run q0 pins s₁ σ H _ I h) fun us sa ⟨vs, H1, I1, r1, qa⟩ => ?_) s0 rfl))) rfl
  obtain ⟨m, e, mb, q⟩ := qa
  subst e
  cases r1 with
  | cons r rr =>
  cases rr
  obtain ⟨t, rfl⟩ := r
  refine call_range_1 ?_
  generalize eb : ({ sa with heap := sa.heap.push { cls := .type "range", data := .fields #[.int 0 sa.toks, .int m t, .int 1 (sa.toks + 1)] }, toks := sa.toks + 1 + 1 } : Shared) = sb
  have rb : IsRange sb.heap sa.heap.objs.size 0 m 1 sa.toks t (sa.toks + 1) := by
    rw [← eb]
    exact Heap.get?_push_size _ rfl
  have Ib : Inv X pins σ H1 sb := by
    rw [← eb]
    exact I1.kept fun b o e => Heap.get?_push_of_some _ e
  have fr : FpOk X pins H1 sa.heap.objs.size := I1.fpOk (Nat.le_refl _) (I1.hok.fresh (Nat.le_refl _))
  have Ib' := Ib.pinned (fp := [sa.heap.objs.size]) (fun b hb => by
    obtain rfl : b = sa.heap.objs.size := by simpa using hb
    exact fr) (fun b hb => by
    obtain rfl : b = sa.heap.objs.size := by simpa using hb
    exact ⟨_, rb, fun v q => nomatch q⟩)
  have pr : ∀ {pl σ' H' s'}, Inv X (pins ++ pinsAt [sa.heap.objs.size] sb.heap ++ pl) σ' H' s' → IsRange s'.heap sa.heap.objs.size 0 m 1 sa.toks t (sa.toks + 1) := fun {pl σ' H' s'} J => (J.pin (sa.heap.objs.size, _) (List.mem_append_right _ (List.mem_append_left _ (List.mem_append_right _ (mem_pinsAt (by simp) rb))))).1
  refine PyProof.Rows.args_cons (wpAny_Call_Name_kw (ld_glob Ib' hg T.g_renewal_dates ?_ (by decide))) rfl
  refine PySem.W.callWith_K (h₀ := X.base) Ib'.ok.mod.kin T.F_renewal_dates.kp (thn (h1.run q1 _ sb σ H1 _ Ib' q) fun us sc ⟨vs, H2, I2, r2, D, s, k, ev, hD, ok, q⟩ => ⟨I2.kIn, ?_⟩) he1 hp1
  subst ev
  refine wpAny_call (codeAny_mono (made_R rfl rfl T (A1 := X.A.in1.in1) (F := 6000) (args := ⟨us, []⟩) (us := us) I2 (hr.mono (by decide)) (hr.in1.in1) I2.ok.frames (by
    have z := b_renewal_dates T sc us I2.kIn (by rw [List.append_nil, ← r2.length]; rfl)
    rw [List.append_nil] at z
    exact z) r2 hD ok (by decide)) fun r sd ⟨u, e2, M⟩ => ?_)
  subst e2
  obtain ⟨a1, n1, f1, cd1, rfl, I3, gs1, gk1, kp1, en1, l1, fn1, fa1, T1⟩ := M
  have I3' := I3.pinned (fp := [n1, a1]) (fun b hb => by
    simp only [List.mem_cons, List.not_mem_nil, or_false] at hb
    rcases hb with rfl | rfl
    · exact fn1
    · exact fa1) (fun b hb => by
    simp only [List.mem_cons, List.not_mem_nil, or_false] at hb
    rcases hb with rfl | rfl
    · exact own_obj T1.2.1
    · exact gen_obj T1.1)
  refine PyProof.Rows.args_cons (wpAny_Call_Name_kw (ld_glob I3' hg T.g_renewal_dates ?_ (by decide))) rfl
  refine PySem.W.callWith_K (h₀ := X.base) I3'.ok.mod.kin T.F_renewal_dates.kp (thn (h2 q2 _ sd σ H2 _ I3' q) fun us se ⟨g4, vs, H3, I4, r4, ev, hD4, q⟩ => ⟨I4.kIn, ?_⟩) he2 hp2
  subst ev
  obtain ⟨on1, en1', dn1⟩ := own_obj T1.2.1
  obtain ⟨oa1, ea1', da1⟩ := gen_obj T1.1
  have pn : se.heap.get? n1 = some on1 ∧ H3 n1 = none := let z := I4.pin (n1, on1) (List.mem_append_right _ (List.mem_append_right _ (mem_pinsAt (by simp) en1'))); ⟨z.1, z.2.1⟩
  have pa : se.heap.get? a1 = some oa1 ∧ H3 a1 = none := let z := I4.pin (a1, oa1) (List.mem_append_right _ (List.mem_append_right _ (mem_pinsAt (by simp) ea1'))); ⟨z.1, z.2.1⟩
  have U1 : (rgd X.base X.stack n1 6000 X.s_0.os f1 cd1 D s k).TN X.prog X.w X.A.in1.in1 a1 sc.gens.size 0 se := Gn.Gd.TN.at T1 (fun o e => by
    rw [ea1'] at e
    cases e
    exact pa.1) (own_at fun o e => by
    rw [en1'] at e
    cases e
    exact pn.1) (by rw [show se.gens = sd.gens from g4])
  have re := pr I4
  refine wpAny_call (codeAny_mono (made_R rfl rfl T (A1 := X.A.in1.in1) (F := 6000) (args := ⟨us, []⟩) (us := us) I4 (hr.mono (by decide)) (hr.in1.in1) I4.ok.frames (by
    have z := b_renewal_dates T se us I4.kIn (by rw [List.append_nil, ← r4.length]; rfl)
    rw [List.append_nil] at z
    exact z) r4 hD4 ok (by decide)) fun r sf ⟨u, e2, M⟩ => ?_)
  subst e2
  obtain ⟨a2, n2, f2, cd2, rfl, I5, gs2, gk2, kp2, en2, l2, fn2, fa2, T2⟩ := M
  refine PyProof.Rows.args_nil ?_
  have I6 : Inv X pins σ H3 sf := (I5.unpinned).unpinned
  have ge : se.gens = sd.gens := g4
  have V1 : (rgd X.base X.stack n1 6000 X.s_0.os f1 cd1 D s k).TN X.prog X.w X.A.in1.in1 a1 sc.gens.size 0 sf := Gn.Gd.TN.at U1 (fun o e => kp2 _ o e) (own_at fun o e => kp2 _ o e) (gk2 _ (by rw [ge, gs1]; exact Nat.lt_succ_self _))
  have rf : IsRange sf.heap sa.heap.objs.size 0 m 1 sa.toks t (sa.toks + 1) := kp2 _ _ re
  refine Gn.zip_new (Gn.begins_range _ (small_one (by omega) (by omega) (by omega) (by omega))) rf V1.1 T2.1 fun h' zip ti to it kp => wpAny_pyIter_zip zip ?_
  have I7 : Inv X pins σ H3 { sf with heap := h' } := I6.kept (t' := sf.toks) kp
  have lt2 : a1 < n2 := by
    rw [← en2]
    exact Heap.lt_size pa.1
  obtain ⟨oa2, ea2, _⟩ := gen_obj T2.1
  have lt4 : a2 < sf.heap.objs.size := Heap.lt_size ea2
  have fu : ∀ {b : Addr}, H3 b = none → FpOk X pins H2 b → FpOk X pins H3 b := fun {b} hn f => ⟨hn, f.2⟩
  have sub : ∀ {ps pl : List (Addr × Obj)} {H' : Hp} {b : Addr}, FpOk X (ps ++ pl) H' b → FpOk X ps H' b := fun {ps pl H' b} f => ⟨f.1, f.2.1, f.2.2.1, f.2.2.2.1, f.2.2.2.2.1, fun p hp => f.2.2.2.2.2 p ((List.mem_append.mp hp).elim (List.mem_append_left _) fun z => List.mem_append_right _ (List.mem_append_left _ z))⟩
  refine ⟨_, fpZ sf.heap.objs.size n1 a1 n2 a2, _, ItZ D s k m, H3, rfl, I7, turn_Z (g1 := sc.gens.size) (g2 := se.gens.size) (f1 := f1) (f2 := f2) (cd1 := cd1) (cd2 := cd2) (F := 6000) hc hr.depth l1 lt2 l2 lt4 (by rw [ge, gs1]; exact Nat.ne_of_lt (Nat.lt_succ_self _)) mb, ⟨Nat.zero_le _, zip, ti, ⟨_, _, _, to⟩, ?_, ?_, ?_⟩, fun b hb => ?_, q⟩
  · have z : h'.get? sf.heap.objs.size = some _ := it
    have e1 : Builtin.Range.rangeSize 0 m 1 = (m : Int) - ((0 : Nat) : Int) := by
      rw [rangeSize_one]
      split <;> omega
    rw [e1] at z
    exact z
  · exact Gn.Gd.TN.at V1 (fun o e => kp _ o e) (own_at fun o e => kp _ o e) rfl
  · exact Gn.Gd.TN.at T2 (fun o e => kp _ o e) (own_at fun o e => kp _ o e) rfl
  · simp only [List.mem_cons, List.not_mem_nil, or_false] at hb
    rcases hb with q | q | q | q | q | q | q | q
    · rw [q]; exact I6.fpOk (Nat.le_refl _) (I6.hok.fresh (Nat.le_refl _))
    · rw [q]; exact I6.fpOk (Nat.le_add_right _ _) (I6.hok.fresh (Nat.le_add_right _ _))
    · rw [q]; exact I6.fpOk (Nat.le_add_right _ _) (I6.hok.fresh (Nat.le_add_right _ _))
    · rw [q]; exact I6.fpOk (Nat.le_add_right _ _) (I6.hok.fresh (Nat.le_add_right _ _))
    · rw [q]; exact fu pn.2 (sub fn1)
    · rw [q]; exact fu pa.2 (sub fa1)
    · rw [q]; exact sub (sub fn2)
    · rw [q]; exact sub (sub fa2)
section
variable {σ : L2.St} {H : Hp} {ta t1 t2 : TA} {R : It → Hp → Prop}
theorem st_iZR (h : ta σ H fun vs H1 => ∃ m : Nat, vs = [.int m] ∧ m ≤ 6000 ∧ t1 σ H1 fun vs H2 => ∃ D s k, vs = [.ref D, .int k] ∧ H2 D = some (.tup (dT s)) ∧ okS s ∧ t2 σ H2 fun vs H3 => vs = [.ref D, .int k] ∧ H3 D = some (.tup (dT s)) ∧ R (ItZ D s k m) H3) : iZR ta t1 t2 σ H R := h
end

end
end Mc
namespace Mc
open PySem PySem.Spec PyProof.Rows L2
local macro_rules | `(tactic| lcg_src) => `(tactic| first
  | with_reducible assumption
  | ((with_reducible apply Ne.symm); with_reducible assumption)
  | ((with_reducible apply ne_nf); (with_reducible assumption); lcg_off)
  | ((with_reducible apply Ne.symm); (with_reducible apply ne_nf); (with_reducible assumption); lcg_off))
local macro_rules | `(tactic| lcg_off) => `(tactic| first
  | with_reducible assumption
  | (with_reducible exact upd_same)
  | ((with_reducible apply hp_ne); lcg_src; lcg_off)
  | ((with_reducible apply hp_same); (with_reducible assumption); lcg_off)
  | ((with_reducible apply hp_frm); (with_reducible assumption); lcg_src; lcg_off)
  | ((with_reducible apply hp_frm2); (with_reducible assumption); lcg_src; lcg_src; lcg_off)
  | assumption)
local macro_rules | `(tactic| kpt_turns) => `(tactic| first
  | with_reducible assumption
  | ((with_reducible apply SqL.of); lcg_off)
  | ((with_reducible apply SqT.of); lcg_off)
  | ((with_reducible apply Frm.seq); (with_reducible assumption); lcg_src; kpt_turns)
  | ((with_reducible apply Frm.tup); (with_reducible assumption); lcg_src; kpt_turns)
  | ((with_reducible apply Frm2.seq); (with_reducible assumption); lcg_src; lcg_src; kpt_turns)
  | ((with_reducible apply Frm2.tup); (with_reducible assumption); lcg_src; lcg_src; kpt_turns)
  | ((with_reducible apply L2.Same.seq); (with_reducible assumption); kpt_turns)
  | ((with_reducible apply Same.tup); (with_reducible assumption); kpt_turns)
  | assumption)
local macro_rules | `(tactic| k_memK) => `(tactic| first
  | with_reducible exact Frm.refl _
  | with_reducible assumption
  | ((with_reducible apply Frm.trN); (with_reducible assumption); k_memK)
  | ((with_reducible apply Frm.trU); k_memK)
  | ((with_reducible apply Frm.trM); (with_reducible assumption); k_memK)
  | ((with_reducible apply Frm.tr); (with_reducible assumption); k_memK)
  | ((with_reducible apply Frm.trS); (with_reducible assumption); k_memK)
  | with_reducible exact Frm2.refl _
  | ((with_reducible apply Frm2.trN); (with_reducible assumption); k_memK)
  | ((with_reducible apply Frm2.trU); k_memK)
  | ((with_reducible apply Frm2.trV); k_memK)
  | ((with_reducible apply Frm2.trM); (with_reducible assumption); k_memK)
  | ((with_reducible apply Frm2.tr); (with_reducible assumption); k_memK)
  | ((with_reducible apply Frm2.trS); (with_reducible assumption); k_memK))
local macro_rules | `(tactic| k_allIn) => `(tactic| first
  | with_reducible exact L2.Same.refl _
  | with_reducible assumption
  | ((with_reducible apply same_trN); (with_reducible assumption); k_allIn)
  | ((with_reducible apply same_trU); (with_reducible assumption); k_allIn)
  | ((with_reducible apply same_tr); (with_reducible assumption); k_allIn))
local macro_rules | `(tactic| k_ownIn) => `(tactic| first
  | with_reducible refine st_seq ?_
  | ((with_reducible refine' st_setF ?e ?_); (case e => intro x; (simp only [List.set_cons_zero, List.set_cons_succ]; exact rfl)))
  | with_reducible refine st_c ?_
  | ((with_reducible refine' st_var ?h ?_); (case h => exact rfl))
  | with_reducible refine st_op ?_
  | with_reducible refine st_I0 ?_
  | ((with_reducible refine' st_powL ?c ?e ?_); (case c => exact ⟨by decide, by decide, by decide⟩); (case e => (simp only [Int.reduceToNat, Int.reducePow]; exact rfl)))
  | ((with_reducible refine st_I ?h ?_); (case h => first | with_reducible assumption | (show (0 : Int) < _; omega) | exact ⟨by omega, by omega⟩ | exact .inl ⟨by omega, by omega⟩ | exact .inr ⟨by omega, by omega⟩ | exact ⟨by omega, by omega, by omega⟩))
  | with_reducible refine st_nil ?_
  | with_reducible refine st_cons ?_
  | with_reducible refine st_ret ?_
  | with_reducible refine st_call ?_
  | with_reducible refine st_cb ?_
  | with_reducible refine st_exb ?_
  | ((with_reducible refine' st_ixL ?h1 ?h2 ?_); (case h1 => kpt_turns); (case h2 => first | ((with_reducible apply at0); exact rfl) | ((with_reducible apply at1); exact rfl) | ((with_reducible apply at2); exact rfl) | ((with_reducible apply at3); exact rfl) | with_reducible assumption))
  | ((with_reducible refine' st_ixT ?h1 ?h2 ?_); (case h1 => kpt_turns); (case h2 => first | ((with_reducible apply at0); exact rfl) | ((with_reducible apply at1); exact rfl) | ((with_reducible apply at2); exact rfl) | with_reducible assumption))
  | ((with_reducible refine' st_ixP ?h1 ?h2 ?h3 ?h4 ?_); (case h1 => kpt_turns); (case h2 => (repeat constructor)); (case h3 => omega); (case h4 => (simp; omega)))
  | ((with_reducible refine' st_ixPT ?h1 ?h2 ?h3 ?h4 ?_); (case h1 => kpt_turns); (case h2 => (repeat constructor)); (case h3 => omega); (case h4 => (simp; omega)))
  | with_reducible refine st_tB ?_
  | with_reducible refine st_test ?_
  | with_reducible refine st_and ?_
  | with_reducible refine st_or ?_
  | with_reducible refine st_not ?_
  | with_reducible refine st_andV ?_
  | with_reducible refine st_orV ?_
  | with_reducible refine st_notV ?_
  | with_reducible refine st_chain ?_
  | with_reducible refine st_iT ?_
  | with_reducible refine st_iF ?_
  | with_reducible refine st_iNT ?_
  | with_reducible refine st_iNF ?_
  | with_reducible refine st_iRf ?_
  | with_reducible refine st_iNRf ?_
  | with_reducible refine st_asg ?_
  | ((with_reducible refine' st_parF ?e ?_); (case e => intro x y; (simp only [List.set_cons_zero, List.set_cons_succ]; exact rfl)))
  | with_reducible refine st_par2 ?_
  | with_reducible refine st_fst ?_
  | with_reducible refine st_jsE ?_
  | with_reducible refine st_js ?_
  | with_reducible refine st_fmt ?_
  | with_reducible refine st_joinK ?_
  | with_reducible refine st_strx ?_
  | ((with_reducible refine' st_par3F ?e ?_); (case e => intro x y z; (simp only [List.set_cons_zero, List.set_cons_succ]; exact rfl)))
  | with_reducible refine st_par3 ?_
  | ((with_reducible refine' st_augF ?h ?e ?_); (case h => exact rfl); (case e => intro x; (simp only [List.set_cons_zero, List.set_cons_succ]; exact rfl)))
  | with_reducible refine st_ipI ?_
  | with_reducible refine st_drop ?_
  | with_reducible refine st_next ?_
  | with_reducible refine st_un ?_
  | with_reducible refine st_U ?_
  | ((with_reducible refine' st_gNF ?e ?_); (case e => (simp only [List.set_cons_zero, List.set_cons_succ]; exact rfl)))
  | with_reducible refine st_gN ?_
  | ((with_reducible refine' st_gT ?h1 ?h2 ?_); (case h1 => kpt_turns); (case h2 => exact rfl))
  | with_reducible refine st_gC ?_
  | with_reducible refine st_gE ?_
  | with_reducible refine st_gS ?_
  | ((with_reducible refine' st_setL ?h1 ?h2 ?_); (case h1 => lcg_off); (case h2 => exact rfl))
  | with_reducible refine st_lst ?_
  | with_reducible refine st_tup ?_
  | ((with_reducible refine st_new ?h ?_); (case h => (simp; done)))
  | with_reducible refine st_callN ?_
  | with_reducible refine st_bm ?_
  | with_reducible refine st_bm0 ?_
  | ((with_reducible refine' st_tyL ?h ?_); (case h => kpt_turns))
  | ((with_reducible refine st_eq ?h ?_); (case h => exact rfl))
  | ((with_reducible refine st_ne ?h ?_); (case h => exact rfl))
  | with_reducible refine st_i1 ?_
  | with_reducible refine st_i2 ?_
  | with_reducible refine st_int ?_
  | with_reducible refine st_intb ?_
  | ((with_reducible refine' st_lenQ ?h ?_); (case h => kpt_turns))
  | ((with_reducible refine' st_lenQT ?h ?_); (case h => kpt_turns))
  | with_reducible refine st_yes ?_
  | with_reducible refine st_brk ?_
  | with_reducible refine st_cont ?_
  | with_reducible refine st_retN ?_
  | with_reducible refine st_forI ?_
  | with_reducible refine st_lcI ?_
  | with_reducible refine st_itL ?_
  | with_reducible refine st_itT ?_
  | with_reducible refine st_rng1 ?_
  | with_reducible refine st_rng2 ?_
  | with_reducible refine st_ref ?_
  | with_reducible refine st_sl ?_
  | with_reducible refine st_pN ?_
  | with_reducible refine st_pS ?_
  | with_reducible refine st_pI ?_
  | (refine ⟨rfl, ?_⟩))
local macro_rules | `(tactic| cell_call) => `(tactic| first
  | with_reducible refine st_seq ?_
  | ((with_reducible refine' st_setF ?e ?_); (case e => intro x; (simp only [List.set_cons_zero, List.set_cons_succ]; exact rfl)))
  | with_reducible refine st_c ?_
  | ((with_reducible refine' st_var ?h ?_); (case h => exact rfl))
  | with_reducible refine st_op ?_
  | with_reducible refine st_I0 ?_
  | ((with_reducible refine' st_powL ?c ?e ?_); (case c => exact ⟨by decide, by decide, by decide⟩); (case e => (simp only [Int.reduceToNat, Int.reducePow]; exact rfl)))
  | ((with_reducible refine st_I ?h ?_); (case h => first | with_reducible assumption | (show (0 : Int) < _; omega) | exact ⟨by omega, by omega⟩ | exact .inl ⟨by omega, by omega⟩ | exact .inr ⟨by omega, by omega⟩ | exact ⟨by omega, by omega, by omega⟩))
  | with_reducible refine st_nil ?_
  | with_reducible refine st_cons ?_
  | with_reducible refine st_ret ?_
  | with_reducible refine st_call ?_
  | with_reducible refine st_cb ?_
  | with_reducible refine st_exb ?_
  | ((with_reducible refine' st_ixL ?h1 ?h2 ?_); (case h1 => kpt_turns); (case h2 => first | ((with_reducible apply at0); exact rfl) | ((with_reducible apply at1); exact rfl) | ((with_reducible apply at2); exact rfl) | ((with_reducible apply at3); exact rfl) | with_reducible assumption))
  | ((with_reducible refine' st_ixT ?h1 ?h2 ?_); (case h1 => kpt_turns); (case h2 => first | ((with_reducible apply at0); exact rfl) | ((with_reducible apply at1); exact rfl) | ((with_reducible apply at2); exact rfl) | with_reducible assumption))
  | ((with_reducible refine' st_ixP ?h1 ?h2 ?h3 ?h4 ?_); (case h1 => kpt_turns); (case h2 => (repeat constructor)); (case h3 => omega); (case h4 => (simp; omega)))
  | ((with_reducible refine' st_ixPT ?h1 ?h2 ?h3 ?h4 ?_); (case h1 => kpt_turns); (case h2 => (repeat constructor)); (case h3 => omega); (case h4 => (simp; omega)))
  | with_reducible refine st_tB ?_
  | with_reducible refine st_test ?_
  | with_reducible refine st_and ?_
  | with_reducible refine st_or ?_
  | with_reducible refine st_not ?_
  | with_reducible refine st_andV ?_
  | with_reducible refine st_orV ?_
  | with_reducible refine st_notV ?_
  | with_reducible refine st_chain ?_
  | with_reducible refine st_iT ?_
  | with_reducible refine st_iF ?_
  | with_reducible refine st_iNT ?_
  | with_reducible refine st_iNF ?_
  | with_reducible refine st_iRf ?_
  | with_reducible refine st_iNRf ?_
  | with_reducible refine st_asg ?_
  | ((with_reducible refine' st_parF ?e ?_); (case e => intro x y; (simp only [List.set_cons_zero, List.set_cons_succ]; exact rfl)))
  | with_reducible refine st_par2 ?_
  | with_reducible refine st_fst ?_
  | with_reducible refine st_jsE ?_
  | with_reducible refine st_js ?_
  | with_reducible refine st_fmt ?_
  | with_reducible refine st_joinK ?_
  | with_reducible refine st_strx ?_
  | ((with_reducible refine' st_par3F ?e ?_); (case e => intro x y z; (simp only [List.set_cons_zero, List.set_cons_succ]; exact rfl)))
  | with_reducible refine st_par3 ?_
  | ((with_reducible refine' st_augF ?h ?e ?_); (case h => exact rfl); (case e => intro x; (simp only [List.set_cons_zero, List.set_cons_succ]; exact rfl)))
  | with_reducible refine st_ipI ?_
  | with_reducible refine st_drop ?_
  | with_reducible refine st_next ?_
  | with_reducible refine st_un ?_
  | with_reducible refine st_U ?_
  | ((with_reducible refine' st_gNF ?e ?_); (case e => (simp only [List.set_cons_zero, List.set_cons_succ]; exact rfl)))
  | with_reducible refine st_gN ?_
  | ((with_reducible refine' st_gT ?h1 ?h2 ?_); (case h1 => kpt_turns); (case h2 => exact rfl))
  | with_reducible refine st_gC ?_
  | with_reducible refine st_gE ?_
  | with_reducible refine st_gS ?_
  | ((with_reducible refine' st_setL ?h1 ?h2 ?_); (case h1 => lcg_off); (case h2 => exact rfl))
  | with_reducible refine st_lst ?_
  | with_reducible refine st_tup ?_
  | ((with_reducible refine st_new ?h ?_); (case h => (simp; done)))
  | with_reducible refine st_callN ?_
  | with_reducible refine st_bm ?_
  | with_reducible refine st_bm0 ?_
  | ((with_reducible refine' st_tyL ?h ?_); (case h => kpt_turns))
  | ((with_reducible refine st_eq ?h ?_); (case h => exact rfl))
  | ((with_reducible refine st_ne ?h ?_); (case h => exact rfl))
  | with_reducible refine st_i1 ?_
  | with_reducible refine st_i2 ?_
  | with_reducible refine st_int ?_
  | with_reducible refine st_intb ?_
  | ((with_reducible refine' st_lenQ ?h ?_); (case h => kpt_turns))
  | ((with_reducible refine' st_lenQT ?h ?_); (case h => kpt_turns))
  | with_reducible refine st_yes ?_
  | with_reducible refine st_brk ?_
  | with_reducible refine st_cont ?_
  | with_reducible refine st_retN ?_
  | with_reducible refine st_forI ?_
  | with_reducible refine st_lcI ?_
  | with_reducible refine st_itL ?_
  | with_reducible refine st_itT ?_
  | with_reducible refine st_rng1 ?_
  | with_reducible refine st_rng2 ?_
  | with_reducible refine st_ref ?_
  | with_reducible refine st_sl ?_
  | with_reducible refine st_pN ?_
  | with_reducible refine st_pS ?_
  | with_reducible refine st_pI ?_
  | (refine ⟨rfl, ?_⟩)
  | with_reducible refine st_ifE ?_
  | with_reducible refine st_ifS ?_)
local macro_rules | `(tactic| kpf_close) => `(tactic| first
  | cell_call
  | refine st_iD (fun _ => ?_) (fun _ => ?_)
  | refine st_iND (fun _ => ?_) (fun _ => ?_)
  | refine st_iNB (fun _ => ?_) (fun _ => ?_)
  | refine st_iB (fun _ => ?_) (fun _ => ?_))
local macro_rules | `(tactic| k_places) => `(tactic| first
  | with_reducible refine isi_non_bool ?_
  | with_reducible refine isi_non_int ?_
  | with_reducible refine isi_non_str ?_
  | with_reducible refine isi_non_list ?_
  | with_reducible refine isi_non_tuple ?_
  | with_reducible refine isi_bl_bool ?_
  | with_reducible refine isi_bl_int ?_
  | with_reducible refine isi_bl_str ?_
  | with_reducible refine isi_bl_list ?_
  | with_reducible refine isi_bl_tuple ?_
  | with_reducible refine isi_int_bool ?_
  | with_reducible refine isi_int_int ?_
  | with_reducible refine isi_int_str ?_
  | with_reducible refine isi_int_list ?_
  | with_reducible refine isi_int_tuple ?_
  | with_reducible refine isi_str_bool ?_
  | with_reducible refine isi_str_int ?_
  | with_reducible refine isi_str_str ?_
  | with_reducible refine isi_str_list ?_
  | with_reducible refine isi_str_tuple ?_
  | ((with_reducible refine' isi_list_bool ?h ?_); (case h => kpt_turns))
  | ((with_reducible refine' isi_list_int ?h ?_); (case h => kpt_turns))
  | ((with_reducible refine' isi_list_str ?h ?_); (case h => kpt_turns))
  | ((with_reducible refine' isi_list_list ?h ?_); (case h => kpt_turns))
  | ((with_reducible refine' isi_list_tuple ?h ?_); (case h => kpt_turns))
  | ((with_reducible refine' isi_tuple_bool ?h ?_); (case h => kpt_turns))
  | ((with_reducible refine' isi_tuple_int ?h ?_); (case h => kpt_turns))
  | ((with_reducible refine' isi_tuple_str ?h ?_); (case h => kpt_turns))
  | ((with_reducible refine' isi_tuple_list ?h ?_); (case h => kpt_turns))
  | ((with_reducible refine' isi_tuple_tuple ?h ?_); (case h => kpt_turns)))
section
variable {P : Program} {w : World} {K : PySem.W.Frag} {mg : Str → Option Value} {base : Heap}
theorem rst_replicate (s : Dt) (k : Int) : ∀ n : Nat, (List.replicate n k).foldl mvS s = rst s k n
  | 0 => rfl
  | n + 1 => by
    rw [List.replicate_succ', List.foldl_append, rst_replicate s k n]
    rfl
theorem rst_take (s : Dt) (k : Int) {n j : Nat} (h : j ≤ n) : ((List.replicate n k).take j).foldl mvS s = rst s k j := by
  rw [List.take_replicate, Nat.min_eq_left h, rst_replicate]
theorem rnN_rst {s : Dt} {k : Int} (ok : okS s) : ∀ t : Nat, t ≤ 4800 → rnN s k t = rst s k t
  | 0, _ => rnN_zero ok k
  | t + 1, h => by
    have ih := rnN_rst (k := k) ok t (by omega)
    show _ = mvS (rst s k t) k
    rw [← ih]
    unfold rnN mvS
    have e1 : (min ((t + 1 : Nat) : Int) 4800).toNat = t + 1 := by omega
    have e2 : (min (t : Int) 4800).toNat = t := by omega
    have e3 : k * ((t + 1 : Nat) : Int) = k * t + k := by
      rw [show ((t + 1 : Nat) : Int) = (t : Int) + 1 by omega, Int.mul_add, Int.mul_one]
    rw [e1, e2, rnL_succ, List.foldl_append, e3, ← Int.add_assoc]
    rfl
def dts (s : Dt) (k : Int) (n : Nat) : List Dt := (List.range n).map (rst s k)
theorem dts_len {s : Dt} {k : Int} {n : Nat} : (dts s k n).length = n := by
  unfold dts
  rw [List.length_map, List.length_range]
theorem dts_at {s : Dt} {k : Int} {n j : Nat} (h : j < n) : (dts s k n)[j]? = some (rst s k j) := by
  unfold dts
  rw [List.getElem?_map, List.getElem?_range h]
  rfl
theorem dts_take {s : Dt} {k : Int} {n m : Nat} (h : m ≤ n) : (dts s k n).take m = dts s k m := by
  unfold dts
  rw [← List.map_take, List.take_range, Nat.min_eq_left h]
theorem dts_succ {s : Dt} {k : Int} {n : Nat} : dts s k (n + 1) = dts s k n ++ [rst s k n] := by
  unfold dts
  rw [List.range_succ, List.map_append]
  rfl
theorem dl_of {H : Hp} : ∀ (ts : List Addr) (ss : List Dt), ts.length = ss.length → (∀ (j : Nat) (s : Dt), ss[j]? = some s → ∃ t, ts[j]? = some t ∧ H t = some (.tup (dT s))) → DL H (ts.map V.ref) ss
  | [], [], _, _ => .nil
  | t :: ts, s :: ss, hl, h => by
    obtain ⟨u, e, hu⟩ := h 0 s rfl
    obtain rfl : t = u := Option.some.inj e
    exact .cons hu (dl_of ts ss (Nat.succ.inj hl) fun j x e => h (j + 1) x e)
theorem dl_dts {H : Hp} {ts : List Addr} {s : Dt} {k : Int} {n : Nat} (hl : ts.length = n) (ha : ∀ j, j < n → ∃ t, ts[j]? = some t ∧ H t = some (.tup (dT (rst s k j)))) : DL H (ts.map V.ref) (dts s k n) := by
  refine dl_of ts _ (by rw [hl, dts_len]) fun j x e => ?_
  have hj : j < n := by
    have z := (List.getElem?_eq_some_iff.mp e).1
    rw [dts_len] at z
    exact z
  rw [dts_at hj] at e
  cases e
  exact ha j hj
theorem DL.at {H : Hp} {rs : List V} {ss : List Dt} (h : DL H rs ss) : ∀ {j : Nat} {s : Dt}, ss[j]? = some s → ∃ t, rs[j]? = some (.ref t) ∧ H t = some (.tup (dT s)) := by
  induction h with
  | nil =>
    intro j s e
    cases e
  | cons hp _ ih =>
    intro j s e
    cases j with
    | zero =>
      cases e
      exact ⟨_, rfl, hp⟩
    | succ j => exact ih e
theorem DL.take {H : Hp} {rs : List V} {ss : List Dt} (h : DL H rs ss) : ∀ n : Nat, DL H (rs.take n) (ss.take n) := by
  induction h with
  | nil =>
    intro n
    rw [List.take_nil, List.take_nil]
    exact .nil
  | cons hp _ ih =>
    intro n
    cases n with
    | zero => exact .nil
    | succ n => exact .cons hp (ih n)
theorem tk_frm {H H' : Hp} {S : Addr} {c : Int} (P : PoolAt H S c) (F : Frm S H H') : TupK H H' := fun p xs h => F p _ (fun z => by
  obtain ⟨_, _, _, e, _⟩ := P
  rw [z, e] at h
  cases h) h
theorem flat_rep {k : Int} : ∀ n : Nat, (List.replicate n [V.int k]).flatten = (List.replicate n k).map V.int
  | 0 => rfl
  | n + 1 => by
    rw [List.replicate_succ, List.replicate_succ, List.flatten_cons, flat_rep n]
    rfl
/-- a list of pairs of dates, apart from C -/
inductive PL (C : Addr) (H : Hp) : List V → List Dt → Prop
  | nil : PL C H [] []
  | cons {p t u : Addr} {s : Dt} {rs : List V} {ss : List Dt} : p ≠ C → t ≠ C → u ≠ C → H p = some (.lst [.ref t, .ref u]) → H t = some (.tup (dT s)) → H u = some (.tup (dT s)) → PL C H rs ss → PL C H (.ref p :: rs) (s :: ss)
theorem PL.frm {C : Addr} {H H' : Hp} {rs : List V} {ss : List Dt} (f : Frm C H H') (h : PL C H rs ss) : PL C H' rs ss := by
  induction h with
  | nil => exact .nil
  | cons a b c d e g _ ih => exact .cons a b c (f _ _ a d) (f _ _ b e) (f _ _ c g) ih
theorem PL.snoc {C : Addr} {H : Hp} {rs : List V} {ss : List Dt} {p t u : Addr} {s : Dt} (h : PL C H rs ss) (a : p ≠ C) (b : t ≠ C) (c : u ≠ C) (d : H p = some (.lst [.ref t, .ref u])) (e : H t = some (.tup (dT s))) (g : H u = some (.tup (dT s))) : PL C H (rs ++ [.ref p]) (ss ++ [s]) := by
  induction h with
  | nil => exact .cons a b c d e g .nil
  | cons a' b' c' d' e' g' _ ih => exact .cons a' b' c' d' e' g' ih
def dPP (s : Dt) : PyData := .list [dD s, dD s]
theorem PL.dp {K : PySem.W.Frag} {C : Addr} {H : Hp} {rs : List V} {ss : List Dt} (h : PL C H rs ss) : DpAll K H rs (ss.map dPP) := by
  induction h with
  | nil => exact .nil
  | cons _ _ _ d e g _ ih => exact .cons (.lst (SqL.of d) (.cons (dp_date e) (.cons (dp_date g) .nil))) ih
theorem Sm.pairs : ∀ ss : List Dt, SmA (ss.map dPP) 2 (9 * ss.length)
  | [] => SmA.mono Sm.nil (by decide) (by decide)
  | s :: ss => SmA.mono (Sm.cons (Sm.list (Sm.cons (Sm.date s) (Sm.cons (Sm.date s) Sm.nil))) (Sm.pairs ss)) (by decide) (by rw [List.length_cons]; omega)
theorem lc_Z {D : Addr} {s : Dt} {k : Int} {m : Nat} {g : TG} {tt : TT} {te : TE} {vs : List Nat} {σ : L2.St} {H1 : Hp} {C : Addr} {Qd : Hp → Prop} (Pv : Nat → Hp → Prop) (h0 : Pv 0 (upd H1 C (.lst []))) (hD : ∀ i H, i < m → Pv i H → H D = some (.tup (dT s)))
    (hs : ∀ i H T t1 t2, i < m → Pv i H → H t1 = none → (upd H t1 (.tup (dT (rst s k i)))) t2 = none → (upd (upd H t1 (.tup (dT (rst s k i)))) t2 (.tup (dT (rst s k i)))) T = none →
      g (.ref T) (wipe σ vs) (upd (upd (upd H t1 (.tup (dT (rst s k i)))) t2 (.tup (dT (rst s k i)))) T (.tup [.int i, .ref t1, .ref t2])) fun σ2 H2 => wipe σ2 vs = wipe σ vs ∧ tt σ2 H2 fun b H3 =>
        if b = true then te σ2 H3 fun y H4 => ∃ acc, H4 C = some (.lst acc) ∧ acc.length < sizeLine ∧ Pv (i + 1) (upd H4 C (.lst (acc ++ [y]))) else Pv (i + 1) H3) (hd : ∀ H, Pv m H → Qd H) :
    ∃ W : Nat → Nat → Hp → Prop, (∃ m, W 0 m (upd H1 C (.lst []))) ∧ ∀ i j H, W i j H →
      ((ItZ D s k m).stop i H ∧ Qd H) ∨ ((ItZ D s k m).go i H ∧ ∃ Nx : Hp → Prop, (∀ H', Nx H' → ∃ m', m' < j ∧ W (i + 1) m' H') ∧ ∀ x H', (ItZ D s k m).yld i H x H' → g x (wipe σ vs) H' fun σ2 H2 => wipe σ2 vs = wipe σ vs ∧ tt σ2 H2 fun b H3 =>
        if b = true then te σ2 H3 fun y H4 => ∃ acc, H4 C = some (.lst acc) ∧ acc.length < sizeLine ∧ Nx (upd H4 C (.lst (acc ++ [y]))) else Nx H3) := by
  refine ⟨fun i j H => j = m - i ∧ i ≤ m ∧ Pv i H, ⟨m, by simp, Nat.zero_le _, h0⟩, ?_⟩
  rintro i j H ⟨rfl, hi, p⟩
  by_cases hlt : i < m
  · refine .inr ⟨⟨hD i H hlt p, hlt⟩, Pv (i + 1), fun H' p' => ⟨m - (i + 1), by omega, rfl, hlt, p'⟩, fun x H' y => ?_⟩
    obtain ⟨T, t1, t2, rfl, n1, n2, n3, rfl⟩ := y
    exact hs i H T t1 t2 hlt p n1 n2 n3
  · obtain rfl : i = m := by omega
    exact .inl ⟨Nat.le_refl _, hd H p⟩
def sp_law_right (K : PySem.W.Frag) : Sp := fun vs H Q _ => ∃ (S : Addr) (c : Int), vs = [.ref S] ∧ PoolAt H S c ∧ c ≤ 1000000000 ∧ ∀ H', PoolAt H' S (c + 100) → Frm S H H' → Q (.bl true) H'
theorem ok_law_right (T : Txt K mg) : FnOk P w K mg base CX0 9 (He.ga K "_law_right") T.fd_law_right ["pool"] (sp_law_right K) := by
  refine T.F_law_right.ok sc_law_right (fun vs H Q E h => ?_) (fun cdv A outer s H vs Q E hr h => ?_)
  · obtain ⟨S, c, rfl, _⟩ := h
    rfl
  · obtain ⟨S, c, rfl, P0, hc, q⟩ := h
    refine ⟨_, PSs.nox (pss_cons (ps_par (i := 1) (j := 2) (by rfl) sc_law_right.nd rfl rfl (by decide) rfl rfl (pa_cons (pe_call (ok_law_date T) (hr.mono (by decide)) rfl T.g_law_date T.F_law_date.kp (b_law_date T) .nil pass0 (pa_cons (pv 0) pa_nil)) (pa_cons (pe_call (ok_law_stride T) (hr.mono (by decide)) rfl T.g_law_stride T.F_law_stride.kp (b_law_stride T) .nil pass0 (pa_cons (pv 0) (pa_cons (pe_ix (show IxR _ (rIxL K) from ix_list) (pe_lst (pa_cons pe_int (pa_cons (pe_op op_pow pe_int pe_int) pa_nil))) (pe_call (ok_law_draw T) (hr.mono (by decide)) rfl T.g_law_draw T.F_law_draw.kp (b_law_draw T) .nil pass0 (pa_cons (pv 0) (pa_cons pe_int pa_nil))) (fun _ _ => rfl)) pa_nil))) pa_nil)) (by rfl))
      (pss_cons (ps_set (i := 3) sc_law_right.nd rfl (Or.inl rfl) (pe_call (ok_law_along T) (hr.mono (by decide)) rfl T.g_law_along T.F_law_along.kp (b_law_along T) .nil pass0 (pa_cons (pv 1) (pa_cons (pe_op op_rep (pe_lst (pa_cons (pv 2) pa_nil)) pe_int) pa_nil))))
      (pss_cons (ps_for PassesOwn.never rfl (show PI _ _ _ (iList K _) from pi_list (pe_lst (pa_cons pe_int (pa_cons pe_int (pa_cons pe_int (pa_cons (pe_call (ok_law_draw T) (hr.mono (by decide)) rfl T.g_law_draw T.F_law_draw.kp (b_law_draw T) .nil pass0 (pa_cons (pv 0) (pa_cons pe_int pa_nil))) (pa_cons (pe_call (ok_law_draw T) (hr.mono (by decide)) rfl T.g_law_draw T.F_law_draw.kp (b_law_draw T) .nil pass0 (pa_cons (pv 0) (pa_cons pe_int pa_nil))) (pa_cons pe_int pa_nil)))))))) (pg_name (i := 4) sc_law_right.nd rfl (Or.inl rfl)) (pss_cons (ps_set (i := 5) sc_law_right.nd rfl (Or.inl rfl) (pe_call (ok_renew T) (hr.mono (by decide)) rfl T.g_renew T.F_renew.kp (b_renew T) .nil pass0 (pa_cons (pv 1) (pa_cons (pv 2) (pa_cons (pv 4) pa_nil)))))
      (pss_cons (ps_set (i := 6) sc_law_right.nd rfl (Or.inl rfl) (pe_callN0 (ok_renew T) (hr.mono (by decide)) rfl T.g_renew T.F_renew.kp (kb_renew_0_date_step_times T) pass0 (pk_cons (pv 1) (pk_cons (pv 2) (pk_cons (pv 4) pk_nil)))))
      (pss_cons (ps_if (PW.pt (pw_or (pt_not (pt_val (pe_callB (show CallR _ _ (rIsi K) from call_isi) (by rfl) T.b_isinstance (by decide +kernel) (pa_cons (pv 5) (pa_cons (pe_bltn (v := .ty "tuple") (by rfl) T.b_tuple (by decide +kernel) rfl) pa_nil))))) (pw_or1 (pt_cmpR (show OpR _ _ (rNeD K) from (op_neD hr.units)) (pe_lst (pa_cons (pv 5) (pa_cons (pv 6) pa_nil))) (pe_op op_rep (pe_lst (pa_cons (pe_ix (show IxR _ (rIxL K) from ix_list) (pv 3) (pv 4) (fun _ _ => rfl)) pa_nil)) pe_int) (nomark _))))) (pss_one (ps_ret pe_bl)) pss_nil)
      (pss_cons (ps_set (i := 7) sc_law_right.nd rfl (Or.inl rfl) (pe_ix (show IxR _ (rIxL K) from ix_list) (pe_call (ok_law_along T) (hr.mono (by decide)) rfl T.g_law_along T.F_law_along.kp (b_law_along T) .nil pass0 (pa_cons (pv 1) (pa_cons (pe_lst (pa_cons (pe_op op_mulW (pv 2) (pv 4)) pa_nil)) pa_nil))) pe_int (fun _ _ => rfl)))
      (pss_one (ps_if (pt_cmpR (show OpR _ _ (rNeD K) from (op_neD hr.units)) (pe_lst (pa_cons (pe_call (ok_anchored T) (hr.mono (by decide)) rfl T.g_anchored T.F_anchored.kp (b_anchored T) .nil pass0 (pa_cons (pv 1) (pa_cons (pv 2) (pa_cons (pv 4) pa_nil)))) (pa_cons (pe_callN0 (ok_anchored T) (hr.mono (by decide)) rfl T.g_anchored T.F_anchored.kp (kb_anchored_0_date_step_times T) pass0 (pk_cons (pv 1) (pk_cons (pv 2) (pk_cons (pv 4) pk_nil)))) pa_nil))) (pe_op op_rep (pe_lst (pa_cons (pv 7) pa_nil)) pe_int) (nomark _)) (pss_one (ps_ret pe_bl)) pss_nil)))))))
      (pss_cons (ps_set (i := 8) sc_law_right.nd rfl (Or.inl rfl) (pe_op op_add pe_int (pe_call (ok_law_draw T) (hr.mono (by decide)) rfl T.g_law_draw T.F_law_draw.kp (b_law_draw T) .nil pass0 (pa_cons (pv 0) (pa_cons pe_int pa_nil)))))
      (pss_cons (ps_if (PW.pt (pw_or (pt_cmpR (show OpR _ _ (rNeD K) from (op_neD hr.units)) (pe_call (ok_law_first T) (hr.mono (by decide)) rfl T.g_law_first T.F_law_first.kp (b_law_first T) .nil pass0 (pa_cons (pv 1) (pa_cons (pv 2) (pa_cons (pv 8) pa_nil)))) (pe_slice (show SlR _ (rSlL K) from sl_list) (pv 3) po_none (po_some (pv 8))) (nomark _)) (pw_or1 (pt_cmpR (show OpR _ _ (rNeD K) from (op_neD hr.units)) (pe_call (ok_law_first T) (hr.mono (by decide)) rfl T.g_law_first T.F_law_first.kp (b_law_first T) .nil pass0 (pa_cons (pv 1) (pa_cons (pv 2) (pa_cons pe_int pa_nil)))) (pv 3) (nomark _))))) (pss_one (ps_ret pe_bl)) pss_nil)
      (pss_cons (Gn.ps_setLcS (i := 9) (own := [("at", 10), ("one", 11), ("two", 12)]) rfl sc_law_right.nd rfl rfl (sw_true rfl rfl rfl (by decide +kernel)) (piz_R T rfl rfl (hr.mono (by decide)) rfl rfl rfl rfl T.b_zip T.b_range (pa_cons pe_int pa_nil) (pa_cons (pv 1) (pa_cons (pv 2) pa_nil)) (Gk.pa_cons (Gk.pv 1) (Gk.pa_cons (Gk.pv 2) Gk.pa_nil))) (blkOk_by (N := N_law_right) (sc := defScope s_law_right) (by decide +kernel)) (fun _ _ _ _ _ => (show PG _ _ (gTup K 3 _) from pg_tup rfl (pgs_cons (pg_name (i := 10) sc_law_right.nd rfl (Or.inl rfl)) (pgs_cons (pg_name (i := 11) sc_law_right.nd rfl (Or.inl rfl)) (pgs_cons (pg_name (i := 12) sc_law_right.nd rfl (Or.inl rfl)) pgs_nil))))) (fun _ _ _ _ _ => (pe_lst (pa_cons (pv 11) (pa_cons (pv 12) pa_nil)))))
      (pss_one (ps_ret (pe_cmpR (show OpR _ _ (rEqD K) from (op_eqD hr.units)) (pv 9) (pe_lc (own := [("one", 11)]) (g := gName 11) (tt := tYes) rfl sc_law_right.nd (show PI _ _ _ (iList K _) from pi_list (pe_slice (show SlR _ (rSlL K) from sl_list) (pv 3) po_none (po_some pe_int))) (blkOk_by (N := N_law_right) (sc := defScope s_law_right) (by decide +kernel)) (fun _ _ _ _ _ => (pg_name (i := 11) sc_law_right.nd rfl (Or.inl rfl))) (fun _ _ _ _ _ => pts_nil) (fun _ _ _ _ _ => (pe_lst (pa_cons (pv 11) (pa_cons (pv 11) pa_nil))))) (nomark _)))))))))), ?_⟩
    rw [start_law_right]
    repeat cell_call
    refine ⟨S, c, rfl, P0, by omega, fun B s H1 nB P1 F1 hB ho s0 s1 => ?_⟩
    have eB : B ≠ S := P0.ne nB
    repeat cell_call
    intro p1 n1
    repeat cell_call
    have e1 := P1.ne n1
    refine ⟨S, _, _, rfl, P1.new n1, by omega, by decide, by decide, fun r1 H2 a1 b1 P2 F2 => ?_⟩
    repeat cell_call
    intro m hm
    replace hm := List.mem_of_getElem? hm
    simp only [List.mem_cons, List.not_mem_nil, or_false] at hm
    repeat cell_call
    refine ⟨S, _, _, rfl, P2, by omega, by omega, by omega, fun k H3 k0 k1 P3 F3 => ?_⟩
    have bk : Big k := big_of (by omega) (by omega)
    clear a1 b1 hm
    have hB3 : H3 B = some (.tup (dT s)) := by lcg_off
    have FF3 : Frm S H H3 := by k_memK
    clear P1 P2 F1 F2 F3 n1 e1 hB s0 s1
    repeat cell_call
    intro p2 n2
    repeat cell_call
    refine st_rep upd_same (by decide) (by decide) (by simp) fun L nL => ?_
    repeat cell_call
    refine ⟨B, L, s, List.replicate 80 k, rfl, by lcg_off, SqL.of (by rw [upd_same]; exact congrArg some (congrArg HO.lst (flat_rep 80))), by simp, fun F ts H4 sm4 nF hF hl ha => ?_⟩
    have hl2 : ts.length = 81 := by rw [hl, List.length_replicate]
    have D4 : DL H4 (ts.map V.ref) (dts s k 81) := dl_dts hl2 fun j hj => by
      obtain ⟨t, e1, e2⟩ := ha j (by rw [List.length_replicate]; omega)
      rw [rst_take s k (by omega)] at e2
      exact ⟨t, e1, e2⟩
    have rl : (ts.map V.ref).length = 81 := by rw [List.length_map, hl2]
    have P4 := ((P3.new (o := .lst [.int k]) n2).new (o := .lst (List.replicate (80 : Int).toNat [V.int k]).flatten) nL).same sm4
    have eF : F ≠ S := (((P3.new (o := .lst [.int k]) n2).new (o := .lst (List.replicate (80 : Int).toNat [V.int k]).flatten) nL)).ne nF
    have hB4 : H4 B = some (.tup (dT s)) := by lcg_off
    have FF4 : Frm S H H4 := by k_memK
    clear P3 n2 nL sm4 nF ha hl hB3 FF3 hl2
    generalize ts.map V.ref = rs at *
    clear ts
    repeat cell_call
    refine ⟨S, _, _, rfl, P4, by omega, by decide, by decide, fun r3 H5 a3 b3 P5 F5 => ?_⟩
    have D5 := D4.imp (tk_frm P4 F5)
    have hB5 : H5 B = some (.tup (dT s)) := by lcg_off
    have hF5 : H5 F = some (.lst rs) := by lcg_off
    have FF5 : Frm S H H5 := by k_memK
    clear D4 hB4 hF FF4 F5 P4
    repeat cell_call
    refine ⟨S, _, _, rfl, P5, by omega, by decide, by decide, fun r4 H6 a4 b4 P6 F6 => ?_⟩
    have D6 := D5.imp (tk_frm P5 F6)
    have hB6 : H6 B = some (.tup (dT s)) := by lcg_off
    have hF6 : H6 F = some (.lst rs) := by lcg_off
    have FF6 : Frm S H H6 := by k_memK
    clear D5 hB5 hF5 FF5 F6 P5
    repeat cell_call
    intro p3 n3
    have P7 := P6.new (o := .lst [.int 0, .int 1, .int 2, .int r3, .int r4, .int 80]) n3
    have D7 := D6.imp (TupK.new (o := .lst [.int 0, .int 1, .int 2, .int r3, .int r4, .int 80]) n3)
    have hB7 := hp_ne (o' := .lst [.int 0, .int 1, .int 2, .int r3, .int r4, .int 80]) (ne_of_none hB6 n3) hB6
    have hF7 := hp_ne (o' := .lst [.int 0, .int 1, .int 2, .int r3, .int r4, .int 80]) (ne_of_none hF6 n3) hF6
    have hL7 : (upd H6 p3 (.lst [.int 0, .int 1, .int 2, .int r3, .int r4, .int 80])) p3 = some (.lst [.int 0, .int 1, .int 2, .int r3, .int r4, .int 80]) := upd_same
    have FF7 : Frm S H (upd H6 p3 (.lst [.int 0, .int 1, .int 2, .int r3, .int r4, .int 80])) := by k_memK
    generalize upd H6 p3 (.lst [.int 0, .int 1, .int 2, .int r3, .int r4, .int 80]) = H7 at *
    clear D6 hB6 hF6 FF6 P6 n3
    repeat cell_call
    refine ⟨⟨_, SqL.of hL7⟩, fL (xs := [.int 0, .int 1, .int 2, .int r3, .int r4, .int 80]) (fun i σ' H' => Same H7 H' ∧ ∃ o1 o2 o3 o4, σ' = [some (.ref S), some (.ref B), some (.int k), some (.ref F), o1, o2, o3, o4, none, none, none, none, none])
      ⟨Same.refl H7, none, none, none, none, rfl⟩ (fun i σ' H' _ e => e.1.seq (SqL.of hL7)) (fun i x σ' H' hx e => ?_) (fun σ' H' e => ?_)⟩
    · obtain ⟨sm, o1, o2, o3, o4, rfl⟩ := e
      have ht : ∃ j : Nat, x = .int j ∧ j ≤ 80 := by
        have z := List.mem_of_getElem? hx
        simp only [List.mem_cons, List.not_mem_nil, or_false] at z
        rcases z with rfl | rfl | rfl | rfl | rfl | rfl
        · exact ⟨0, rfl, by decide⟩
        · exact ⟨1, rfl, by decide⟩
        · exact ⟨2, rfl, by decide⟩
        · exact ⟨r3.toNat, by rw [Int.toNat_of_nonneg a3], by omega⟩
        · exact ⟨r4.toNat, by rw [Int.toNat_of_nonneg a4], by omega⟩
        · exact ⟨80, rfl, by decide⟩
      obtain ⟨j, rfl, hj⟩ := ht
      have bj : Big (j : Int) := big_of (by omega) (by omega)
      have wkt := wide_mul bk bj (by decide) (by decide) (by decide)
      obtain ⟨u, hu, hU⟩ := D7.at (dts_at (s := s) (k := k) (n := 81) (j := j) (by omega))
      have hu2 : atI rs (j : Int) = some (.ref u) := atI_nat hu
      have hB8 := sm _ _ hB7
      have hF8 := sm _ _ hF7
      have hU8 := sm _ _ hU
      have er := rnN_rst (k := k) ho j (by omega)
      clear hx hu
      repeat cell_call
      refine ⟨B, s, k, j, rfl, SqT.of hB8, ho, by omega, bk, bj, fun q1 H8 sm1 m1 h1 => ?_⟩
      rw [er] at h1
      repeat cell_call
      refine ⟨B, s, k, j, rfl, SqT.of (sm1 _ _ hB8), ho, by omega, bk, bj, fun q2 H9 sm2 m2 h2 => ?_⟩
      rw [er] at h2
      have g1 := sm2 _ _ h1
      have gB := sm2 _ _ (sm1 _ _ hB8)
      have gF := sm2 _ _ (sm1 _ _ hF8)
      have gU := sm2 _ _ (sm1 _ _ hU8)
      have smA : Same H7 H9 := same_tr sm2 (same_tr sm1 sm)
      clear sm sm1 sm2 m1 m2 h1 hB8 hF8 hU8
      repeat cell_call
      refine isi_tuple_tuple (SqT.of g1) ?_
      repeat cell_call
      intro m1 w1
      have gT1 := hp_ne (o' := .lst [.ref q1, .ref q2]) (ne_of_none g1 w1) g1
      have gT2 := hp_ne (o' := .lst [.ref q1, .ref q2]) (ne_of_none h2 w1) h2
      have gB2 := hp_ne (o' := .lst [.ref q1, .ref q2]) (ne_of_none gB w1) gB
      have gF2 := hp_ne (o' := .lst [.ref q1, .ref q2]) (ne_of_none gF w1) gF
      have gU2 := hp_ne (o' := .lst [.ref q1, .ref q2]) (ne_of_none gU w1) gU
      have gM2 : (upd H9 m1 (.lst [.ref q1, .ref q2])) m1 = some (.lst [.ref q1, .ref q2]) := upd_same
      have smB : Same H7 (upd H9 m1 (.lst [.ref q1, .ref q2])) := same_trN w1 smA
      generalize upd H9 m1 (.lst [.ref q1, .ref q2]) = Ha at *
      clear g1 h2 gB gF gU smA w1
      repeat cell_call
      intro m2 w2
      repeat cell_call
      refine st_rep upd_same (by decide) (by decide) (by simp) fun m3 w3 => ?_
      refine st_neD (d := .list [dD (rst s k j), dD (rst s k j)]) ?_ ?_ rfl ?_
      · exact .lst (SqL.of (by lcg_off)) (.cons (dp_date (by lcg_off)) (.cons (dp_date (by lcg_off)) .nil))
      · exact .lst (SqL.of upd_same) (.cons (dp_date (by lcg_off)) (.cons (dp_date (by lcg_off)) .nil))
      have smC : Same H7 (upd (upd Ha m2 (.lst [.ref u])) m3 (.lst (List.replicate (2 : Int).toNat [V.ref u]).flatten)) := same_trN w3 (same_trN w2 smB)
      have gB3 : (upd (upd Ha m2 (.lst [.ref u])) m3 (.lst (List.replicate (2 : Int).toNat [V.ref u]).flatten)) B = some (.tup (dT s)) := by lcg_off
      generalize upd (upd Ha m2 (.lst [.ref u])) m3 (.lst (List.replicate (2 : Int).toNat [V.ref u]).flatten) = Hb at *
      clear gT1 gT2 gB2 gF2 gU2 gM2 smB w2 w3 hu2 hU er
      repeat cell_call
      intro m4 w4
      repeat cell_call
      refine ⟨B, m4, s, [k * j], rfl, by lcg_off, SqL.of upd_same, by simp, fun q4 ts Hc smc n4 h4 hl ha => ?_⟩
      obtain ⟨v, hv, hV⟩ := ha 1 (by simp)
      have hv2 : (ts.map V.ref)[1]? = some (.ref v) := by
        rw [List.getElem?_map, hv]
        rfl
      refine st_ixL (SqL.of h4) (at1 hv2) ?_
      have hV : Hc v = some (.tup (dT (anN s k j))) := hV
      have gBc : Hc B = some (.tup (dT s)) := by lcg_off
      have smD : Same H7 Hc := same_tr smc (same_trN w4 smC)
      clear ha hv hv2 h4 hl n4 smc smC gB3 w4
      repeat cell_call
      refine ⟨B, s, k, j, rfl, SqT.of gBc, ho, by omega, bk, bj, fun q5 n5 => ?_⟩
      repeat cell_call
      refine ⟨B, s, k, j, rfl, SqT.of (by lcg_off), ho, by omega, bk, bj, fun q6 n6 => ?_⟩
      repeat cell_call
      intro m5 w5
      repeat cell_call
      intro m6 w6
      repeat cell_call
      refine st_rep upd_same (by decide) (by decide) (by simp) fun m7 w7 => ?_
      refine st_neD (d := .list [dD (anN s k j), dD (anN s k j)]) ?_ ?_ rfl ?_
      · exact .lst (SqL.of (by lcg_off)) (.cons (dp_date (by lcg_off)) (.cons (dp_date (by lcg_off)) .nil))
      · exact .lst (SqL.of upd_same) (.cons (dp_date (by lcg_off)) (.cons (dp_date (by lcg_off)) .nil))
      repeat cell_call
      exact ⟨same_trN w7 (same_trN w6 (same_trN w5 (same_trN n6 (same_trN n5 smD)))), _, _, _, _, rfl⟩
    · obtain ⟨sm, o1, o2, o3, o4, rfl⟩ := e
      have hB8 := sm _ _ hB7
      have hF8 := sm _ _ hF7
      have D8 := D7.imp (TupK.same sm)
      have P8 := P7.same sm
      have FF8 : Frm S H H' := by k_memK
      clear D7 hB7 hF7 hL7 P7 FF7 sm a3 b3 a4 b4
      repeat cell_call
      refine ⟨S, _, _, rfl, P8, by omega, by decide, by decide, fun r5 H9 a5 b5 P9 F9 => ?_⟩
      have D9 := D8.imp (tk_frm P8 F9)
      have hB9 : H9 B = some (.tup (dT s)) := by lcg_off
      have hF9 : H9 F = some (.lst rs) := by lcg_off
      have FF9 : Frm S H H9 := by k_memK
      clear D8 hB8 hF8 FF8 F9 P8
      obtain ⟨f, hf⟩ : ∃ f : Nat, 1 + r5 = (f : Int) := ⟨(1 + r5).toNat, by omega⟩
      repeat cell_call
      rw [hf]
      refine ⟨B, s, k, f, rfl, hB9, ho, by omega, by omega, fun q1 ts Ha sa na ha hl hd => ?_⟩
      have E1 := dl_dts hl hd
      have P10 := P9.same sa
      have FF10 : Frm S H Ha := by k_memK
      have D10 := D9.imp (TupK.same sa)
      have hB10 := sa _ _ hB9
      have hF10 := sa _ _ hF9
      clear hd hl na sa P9 FF9 D9 hB9 hF9
      repeat cell_call
      refine st_slL (SqL.of hF10) fun q2 n2 => ?_
      rw [cutV_take (by omega) (by omega)]
      have E2 : DL Ha (rs.take (f : Int).toNat) (dts s k f) := by
        rw [Int.toNat_natCast]
        have z := D10.take f
        rw [dts_take (by omega)] at z
        exact z
      have sn : Same Ha (upd Ha q2 (.lst (rs.take (f : Int).toNat))) := Same.new n2
      refine st_neD (d := .list ((dts s k f).map dD)) (.lst (SqL.of (sn _ _ ha)) (E1.imp (TupK.same sn)).dp) (.lst (SqL.of upd_same) (E2.imp (TupK.same sn)).dp) (Sm.sh (Sm.list (Sm.dates _)) (by decide)) ?_
      have P11 := P10.same sn
      have FF11 : Frm S H (upd Ha q2 (.lst (rs.take (f : Int).toNat))) := by k_memK
      have D11 := D10.imp (TupK.same sn)
      have hB11 := sn _ _ hB10
      have hF11 := sn _ _ hF10
      generalize upd Ha q2 (.lst (rs.take (f : Int).toNat)) = Hb at *
      clear E1 E2 sn P10 FF10 D10 hB10 hF10 ha n2
      repeat cell_call
      refine ⟨B, s, k, 81, rfl, hB11, ho, by decide, by decide, fun q3 ts Hc sc nc hc3 hl hd => ?_⟩
      have E3 := dl_dts hl hd
      have P12 := P11.same sc
      have FF12 : Frm S H Hc := by k_memK
      have D12 := D11.imp (TupK.same sc)
      have hB12 := sc _ _ hB11
      have hF12 := sc _ _ hF11
      clear hd hl nc sc P11 FF11 D11 hB11 hF11
      repeat cell_call
      refine st_neD (d := .list ((dts s k 81).map dD)) (.lst (SqL.of hc3) E3.dp) (.lst (SqL.of hF12) D12.dp) (Sm.sh (Sm.list (Sm.dates _)) (by decide)) ?_
      clear E3 hc3 ts
      repeat cell_call
      refine st_iZR ?_
      repeat cell_call
      refine ⟨20, rfl, by decide, ?_⟩
      repeat cell_call
      refine ⟨B, s, k, rfl, hB12, ho, ?_⟩
      repeat cell_call
      refine ⟨hB12, fun C nC => ?_⟩
      have sC : Same Hc (upd Hc C (.lst [])) := Same.new nC
      refine lc_Z (fun i H' => ∃ ps, H' C = some (.lst ps) ∧ ps.length = i ∧ PL C H' ps (dts s k i) ∧ Same Hc H') ⟨[], upd_same, rfl, .nil, sC⟩ (fun i H' _ e => ?_) (fun i H' T t1 t2 hi e m1 m2 m3 => ?_) (fun H' e => ?_)
      · obtain ⟨_, _, _, _, sm⟩ := e
        exact sm _ _ hB12
      · obtain ⟨ps, hC, hl, hP, sm⟩ := e
        have x1 : Same H' (upd H' t1 (.tup (dT (rst s k i)))) := Same.new m1
        have x2 := x1.trans (Same.new (o := .tup (dT (rst s k i))) m2)
        have x3 := x2.trans (Same.new (o := .tup [.int i, .ref t1, .ref t2]) m3)
        have ht2 : (upd (upd H' t1 (.tup (dT (rst s k i)))) t2 (.tup (dT (rst s k i)))) t2 = some (.tup (dT (rst s k i))) := upd_same
        have ht1 : (upd (upd H' t1 (.tup (dT (rst s k i)))) t2 (.tup (dT (rst s k i)))) t1 = some (.tup (dT (rst s k i))) := Same.new m2 _ _ upd_same
        have h2 := Same.new (o := .tup [.int i, .ref t1, .ref t2]) m3 _ _ ht2
        have h1 := Same.new (o := .tup [.int i, .ref t1, .ref t2]) m3 _ _ ht1
        have hT : (upd (upd (upd H' t1 (.tup (dT (rst s k i)))) t2 (.tup (dT (rst s k i)))) T (.tup [.int i, .ref t1, .ref t2])) T = some (.tup [.int i, .ref t1, .ref t2]) := upd_same
        have n1 := ne_tl h1 (x3 _ _ hC)
        have n2 := ne_tl h2 (x3 _ _ hC)
        have hC1 := x3 _ _ hC
        have hP1 := hP.frm (Same.frm x3)
        have sm1 := same_tr x3 sm
        generalize upd (upd (upd H' t1 (.tup (dT (rst s k i)))) t2 (.tup (dT (rst s k i)))) T (.tup [.int i, .ref t1, .ref t2]) = Hd at *
        clear x1 x2 x3 ht1 ht2 hC hP sm m1 m2 m3
        repeat cell_call
        intro p np
        have pC : p ≠ C := fun z => by
          rw [z, hC1] at np
          cases np
        have xp : Same Hd (upd Hd p (.lst [.ref t1, .ref t2])) := Same.new np
        refine ⟨ps, xp _ _ hC1, len_lt (by omega), ps ++ [.ref p], upd_same, by rw [List.length_append, hl]; rfl, ?_, ?_⟩
        · rw [dts_succ]
          have fr : Frm C Hd (upd (upd Hd p (.lst [.ref t1, .ref t2])) C (.lst (ps ++ [.ref p]))) := (Same.frm xp).trans Frm.set
          exact (hP1.frm fr).snoc pC n1 n2 (Frm.set _ _ pC upd_same) (fr _ _ n1 h1) (fr _ _ n2 h2)
        · exact Same.by (same_tr xp sm1) nC Frm.set
      · obtain ⟨ps, hC, hl, hP, sm⟩ := e
        have P13 := P12.same sm
        have D13 := D12.imp (TupK.same sm)
        have hF13 := sm _ _ hF12
        have FF13 : Frm S H H' := by k_memK
        clear P12 D12 hF12 FF12 sm sC hB12
        repeat cell_call
        refine st_slL (SqL.of hF13) fun q5 n5 => ?_
        rw [cutV_take (by decide) (by omega)]
        have E5 : DL H' (rs.take (20 : Int).toNat) (dts s k 20) := by
          have z := D13.take 20
          rw [dts_take (by decide)] at z
          exact z
        have s5 : Same H' (upd H' q5 (.lst (rs.take (20 : Int).toNat))) := Same.new n5
        have E6 := E5.imp (TupK.same s5)
        have hq : (upd H' q5 (.lst (rs.take (20 : Int).toNat))) q5 = some (.lst (rs.take (20 : Int).toNat)) := upd_same
        have hC6 := s5 _ _ hC
        have hP6 := hP.frm (Same.frm s5)
        have P14 := P13.same s5
        have FF14 : Frm S H (upd H' q5 (.lst (rs.take (20 : Int).toNat))) := by k_memK
        have hl20 : (rs.take (20 : Int).toNat).length = 20 := E5.len.trans dts_len
        generalize upd H' q5 (.lst (rs.take (20 : Int).toNat)) = He at *
        generalize rs.take (20 : Int).toNat = xs at *
        clear E5 s5 P13 FF13 D13 hF13 hC hP n5
        refine ⟨q5, rfl, ⟨_, SqL.of hq⟩, fun G nG => ?_⟩
        have sG : Same He (upd He G (.lst [])) := Same.new nG
        refine lc_list (xs := xs) (fun i H' => ∃ ps, H' G = some (.lst ps) ∧ ps.length = i ∧ PL G H' ps (dts s k i) ∧ Same He H') ⟨[], upd_same, rfl, .nil, sG⟩ (fun i H' _ e => ?_) (fun i x H' hx e => ?_) (fun H' e => ?_)
        · obtain ⟨_, _, _, _, sm⟩ := e
          exact sm.seq (SqL.of hq)
        · obtain ⟨ps, hG, hl, hP, sm⟩ := e
          have hi : i < 20 := by
            have z := (List.getElem?_eq_some_iff.mp hx).1
            omega
          obtain ⟨t, g1, g2⟩ := E6.at (dts_at (s := s) (k := k) (n := 20) (j := i) hi)
          rw [g1] at hx
          cases hx
          have ht := sm _ _ g2
          have tG := ne_tl ht hG
          repeat cell_call
          intro p np
          have pG : p ≠ G := fun z => by
            rw [z, hG] at np
            cases np
          have xp : Same H' (upd H' p (.lst [.ref t, .ref t])) := Same.new np
          refine ⟨ps, xp _ _ hG, len_lt (by omega), ps ++ [.ref p], upd_same, by rw [List.length_append, hl]; rfl, ?_, ?_⟩
          · rw [dts_succ]
            have fr : Frm G H' (upd (upd H' p (.lst [.ref t, .ref t])) G (.lst (ps ++ [.ref p]))) := (Same.frm xp).trans Frm.set
            exact (hP.frm fr).snoc pG tG tG (Frm.set _ _ pG upd_same) (fr _ _ tG ht) (fr _ _ tG ht)
          · exact Same.by (same_tr xp sm) nG Frm.set
        · obtain ⟨ps2, hG, _, hP2, sm⟩ := e
          rw [hl20] at hP2
          have hP7 := hP6.frm (Same.frm sm)
          refine st_eqD (d := .list ((dts s k 20).map dPP)) (.lst (SqL.of (sm _ _ hC6)) hP7.dp) (.lst (SqL.of hG) hP2.dp) (Sm.sh (Sm.list (Sm.pairs _)) (by decide)) ?_
          exact q _ ((P14.same sm).mono (by omega)) (by k_memK)

end
end Mc
namespace Mc
open PySem PySem.Spec PyProof.Rows L2
local macro_rules | `(tactic| lcg_src) => `(tactic| first
  | with_reducible assumption
  | ((with_reducible apply Ne.symm); with_reducible assumption)
  | ((with_reducible apply ne_nf); (with_reducible assumption); lcg_off)
  | ((with_reducible apply Ne.symm); (with_reducible apply ne_nf); (with_reducible assumption); lcg_off))
local macro_rules | `(tactic| lcg_off) => `(tactic| first
  | with_reducible assumption
  | (with_reducible exact upd_same)
  | ((with_reducible apply hp_ne); lcg_src; lcg_off)
  | ((with_reducible apply hp_same); (with_reducible assumption); lcg_off)
  | ((with_reducible apply hp_frm); (with_reducible assumption); lcg_src; lcg_off)
  | ((with_reducible apply hp_frm2); (with_reducible assumption); lcg_src; lcg_src; lcg_off)
  | assumption)
local macro_rules | `(tactic| kpt_turns) => `(tactic| first
  | with_reducible assumption
  | ((with_reducible apply SqL.of); lcg_off)
  | ((with_reducible apply SqT.of); lcg_off)
  | ((with_reducible apply Frm.seq); (with_reducible assumption); lcg_src; kpt_turns)
  | ((with_reducible apply Frm.tup); (with_reducible assumption); lcg_src; kpt_turns)
  | ((with_reducible apply Frm2.seq); (with_reducible assumption); lcg_src; lcg_src; kpt_turns)
  | ((with_reducible apply Frm2.tup); (with_reducible assumption); lcg_src; lcg_src; kpt_turns)
  | ((with_reducible apply L2.Same.seq); (with_reducible assumption); kpt_turns)
  | ((with_reducible apply Same.tup); (with_reducible assumption); kpt_turns)
  | assumption)
local macro_rules | `(tactic| k_memK) => `(tactic| first
  | with_reducible exact Frm.refl _
  | with_reducible assumption
  | ((with_reducible apply Frm.trN); (with_reducible assumption); k_memK)
  | ((with_reducible apply Frm.trU); k_memK)
  | ((with_reducible apply Frm.trM); (with_reducible assumption); k_memK)
  | ((with_reducible apply Frm.tr); (with_reducible assumption); k_memK)
  | ((with_reducible apply Frm.trS); (with_reducible assumption); k_memK)
  | with_reducible exact Frm2.refl _
  | ((with_reducible apply Frm2.trN); (with_reducible assumption); k_memK)
  | ((with_reducible apply Frm2.trU); k_memK)
  | ((with_reducible apply Frm2.trV); k_memK)
  | ((with_reducible apply Frm2.trM); (with_reducible assumption); k_memK)
  | ((with_reducible apply Frm2.tr); (with_reducible assumption); k_memK)
  | ((with_reducible apply Frm2.trS); (with_reducible assumption); k_memK))
local macro_rules | `(tactic| k_allIn) => `(tactic| first
  | with_reducible exact L2.Same.refl _
  | with_reducible assumption
  | ((with_reducible apply same_trN); (with_reducible assumption); k_allIn)
  | ((with_reducible apply same_trU); (with_reducible assumption); k_allIn)
  | ((with_reducible apply same_tr); (with_reducible assumption); k_allIn))
local macro_rules | `(tactic| k_ownIn) => `(tactic| first
  | with_reducible refine st_seq ?_
  | ((with_reducible refine' st_setF ?e ?_); (case e => intro x; (simp only [List.set_cons_zero, List.set_cons_succ]; exact rfl)))
  | with_reducible refine st_c ?_
  | ((with_reducible refine' st_var ?h ?_); (case h => exact rfl))
  | with_reducible refine st_op ?_
  | with_reducible refine st_I0 ?_
  | ((with_reducible refine' st_powL ?c ?e ?_); (case c => exact ⟨by decide, by decide, by decide⟩); (case e => (simp only [Int.reduceToNat, Int.reducePow]; exact rfl)))
  | ((with_reducible refine st_I ?h ?_); (case h => first | with_reducible assumption | (show (0 : Int) < _; omega) | exact ⟨by omega, by omega⟩ | exact .inl ⟨by omega, by omega⟩ | exact .inr ⟨by omega, by omega⟩ | exact ⟨by omega, by omega, by omega⟩))
  | with_reducible refine st_nil ?_
  | with_reducible refine st_cons ?_
  | with_reducible refine st_ret ?_
  | with_reducible refine st_call ?_
  | with_reducible refine st_cb ?_
  | with_reducible refine st_exb ?_
  | ((with_reducible refine' st_ixL ?h1 ?h2 ?_); (case h1 => kpt_turns); (case h2 => first | ((with_reducible apply at0); exact rfl) | ((with_reducible apply at1); exact rfl) | ((with_reducible apply at2); exact rfl) | ((with_reducible apply at3); exact rfl) | with_reducible assumption))
  | ((with_reducible refine' st_ixT ?h1 ?h2 ?_); (case h1 => kpt_turns); (case h2 => first | ((with_reducible apply at0); exact rfl) | ((with_reducible apply at1); exact rfl) | ((with_reducible apply at2); exact rfl) | with_reducible assumption))
  | ((with_reducible refine' st_ixP ?h1 ?h2 ?h3 ?h4 ?_); (case h1 => kpt_turns); (case h2 => (repeat constructor)); (case h3 => omega); (case h4 => (simp; omega)))
  | ((with_reducible refine' st_ixPT ?h1 ?h2 ?h3 ?h4 ?_); (case h1 => kpt_turns); (case h2 => (repeat constructor)); (case h3 => omega); (case h4 => (simp; omega)))
  | with_reducible refine st_tB ?_
  | with_reducible refine st_test ?_
  | with_reducible refine st_and ?_
  | with_reducible refine st_or ?_
  | with_reducible refine st_not ?_
  | with_reducible refine st_andV ?_
  | with_reducible refine st_orV ?_
  | with_reducible refine st_notV ?_
  | with_reducible refine st_chain ?_
  | with_reducible refine st_iT ?_
  | with_reducible refine st_iF ?_
  | with_reducible refine st_iNT ?_
  | with_reducible refine st_iNF ?_
  | with_reducible refine st_iRf ?_
  | with_reducible refine st_iNRf ?_
  | with_reducible refine st_asg ?_
  | ((with_reducible refine' st_parF ?e ?_); (case e => intro x y; (simp only [List.set_cons_zero, List.set_cons_succ]; exact rfl)))
  | with_reducible refine st_par2 ?_
  | with_reducible refine st_fst ?_
  | with_reducible refine st_jsE ?_
  | with_reducible refine st_js ?_
  | with_reducible refine st_fmt ?_
  | with_reducible refine st_joinK ?_
  | with_reducible refine st_strx ?_
  | ((with_reducible refine' st_par3F ?e ?_); (case e => intro x y z; (simp only [List.set_cons_zero, List.set_cons_succ]; exact rfl)))
  | with_reducible refine st_par3 ?_
  | ((with_reducible refine' st_augF ?h ?e ?_); (case h => exact rfl); (case e => intro x; (simp only [List.set_cons_zero, List.set_cons_succ]; exact rfl)))
  | with_reducible refine st_ipI ?_
  | with_reducible refine st_drop ?_
  | with_reducible refine st_next ?_
  | with_reducible refine st_un ?_
  | with_reducible refine st_U ?_
  | ((with_reducible refine' st_gNF ?e ?_); (case e => (simp only [List.set_cons_zero, List.set_cons_succ]; exact rfl)))
  | with_reducible refine st_gN ?_
  | ((with_reducible refine' st_gT ?h1 ?h2 ?_); (case h1 => kpt_turns); (case h2 => exact rfl))
  | with_reducible refine st_gC ?_
  | with_reducible refine st_gE ?_
  | with_reducible refine st_gS ?_
  | ((with_reducible refine' st_setL ?h1 ?h2 ?_); (case h1 => lcg_off); (case h2 => exact rfl))
  | with_reducible refine st_lst ?_
  | with_reducible refine st_tup ?_
  | ((with_reducible refine st_new ?h ?_); (case h => (simp; done)))
  | with_reducible refine st_callN ?_
  | with_reducible refine st_bm ?_
  | with_reducible refine st_bm0 ?_
  | ((with_reducible refine' st_tyL ?h ?_); (case h => kpt_turns))
  | ((with_reducible refine st_eq ?h ?_); (case h => exact rfl))
  | ((with_reducible refine st_ne ?h ?_); (case h => exact rfl))
  | with_reducible refine st_i1 ?_
  | with_reducible refine st_i2 ?_
  | with_reducible refine st_int ?_
  | with_reducible refine st_intb ?_
  | ((with_reducible refine' st_lenQ ?h ?_); (case h => kpt_turns))
  | ((with_reducible refine' st_lenQT ?h ?_); (case h => kpt_turns))
  | with_reducible refine st_yes ?_
  | with_reducible refine st_brk ?_
  | with_reducible refine st_cont ?_
  | with_reducible refine st_retN ?_
  | with_reducible refine st_forI ?_
  | with_reducible refine st_lcI ?_
  | with_reducible refine st_itL ?_
  | with_reducible refine st_itT ?_
  | with_reducible refine st_rng1 ?_
  | with_reducible refine st_rng2 ?_
  | with_reducible refine st_ref ?_
  | with_reducible refine st_sl ?_
  | with_reducible refine st_pN ?_
  | with_reducible refine st_pS ?_
  | with_reducible refine st_pI ?_
  | (refine ⟨rfl, ?_⟩))
local macro_rules | `(tactic| cell_call) => `(tactic| first
  | with_reducible refine st_seq ?_
  | ((with_reducible refine' st_setF ?e ?_); (case e => intro x; (simp only [List.set_cons_zero, List.set_cons_succ]; exact rfl)))
  | with_reducible refine st_c ?_
  | ((with_reducible refine' st_var ?h ?_); (case h => exact rfl))
  | with_reducible refine st_op ?_
  | with_reducible refine st_I0 ?_
  | ((with_reducible refine' st_powL ?c ?e ?_); (case c => exact ⟨by decide, by decide, by decide⟩); (case e => (simp only [Int.reduceToNat, Int.reducePow]; exact rfl)))
  | ((with_reducible refine st_I ?h ?_); (case h => first | with_reducible assumption | (show (0 : Int) < _; omega) | exact ⟨by omega, by omega⟩ | exact .inl ⟨by omega, by omega⟩ | exact .inr ⟨by omega, by omega⟩ | exact ⟨by omega, by omega, by omega⟩))
  | with_reducible refine st_nil ?_
  | with_reducible refine st_cons ?_
  | with_reducible refine st_ret ?_
  | with_reducible refine st_call ?_
  | with_reducible refine st_cb ?_
  | with_reducible refine st_exb ?_
  | ((with_reducible refine' st_ixL ?h1 ?h2 ?_); (case h1 => kpt_turns); (case h2 => first | ((with_reducible apply at0); exact rfl) | ((with_reducible apply at1); exact rfl) | ((with_reducible apply at2); exact rfl) | ((with_reducible apply at3); exact rfl) | with_reducible assumption))
  | ((with_reducible refine' st_ixT ?h1 ?h2 ?_); (case h1 => kpt_turns); (case h2 => first | ((with_reducible apply at0); exact rfl) | ((with_reducible apply at1); exact rfl) | ((with_reducible apply at2); exact rfl) | with_reducible assumption))
  | ((with_reducible refine' st_ixP ?h1 ?h2 ?h3 ?h4 ?_); (case h1 => kpt_turns); (case h2 => (repeat constructor)); (case h3 => omega); (case h4 => (simp; omega)))
  | ((with_reducible refine' st_ixPT ?h1 ?h2 ?h3 ?h4 ?_); (case h1 => kpt_turns); (case h2 => (repeat constructor)); (case h3 => omega); (case h4 => (simp; omega)))
  | with_reducible refine st_tB ?_
  | with_reducible refine st_test ?_
  | with_reducible refine st_and ?_
  | with_reducible refine st_or ?_
  | with_reducible refine st_not ?_
  | with_reducible refine st_andV ?_
  | with_reducible refine st_orV ?_
  | with_reducible refine st_notV ?_
  | with_reducible refine st_chain ?_
  | with_reducible refine st_iT ?_
  | with_reducible refine st_iF ?_
  | with_reducible refine st_iNT ?_
  | with_reducible refine st_iNF ?_
  | with_reducible refine st_iRf ?_
  | with_reducible refine st_iNRf ?_
  | with_reducible refine st_asg ?_
  | ((with_reducible refine' st_parF ?e ?_); (case e => intro x y; (simp only [List.set_cons_zero, List.set_cons_succ]; exact rfl)))
  | with_reducible refine st_par2 ?_
  | with_reducible refine st_fst ?_
  | with_reducible refine st_jsE ?_
  | with_reducible refine st_js ?_
  | with_reducible refine st_fmt ?_
  | with_reducible refine st_joinK ?_
  | with_reducible refine st_strx ?_
  | ((with_reducible refine' st_par3F ?e ?_); (case e => intro x y z; (simp only [List.set_cons_zero, List.set_cons_succ]; exact rfl)))
  | with_reducible refine st_par3 ?_
  | ((with_reducible refine' st_augF ?h ?e ?_); (case h => exact rfl); (case e => intro x; (simp only [List.set_cons_zero, List.set_cons_succ]; exact rfl)))
  | with_reducible refine st_ipI ?_
  | with_reducible refine st_drop ?_
  | with_reducible refine st_next ?_
  | with_reducible refine st_un ?_
  | with_reducible refine st_U ?_
  | ((with_reducible refine' st_gNF ?e ?_); (case e => (simp only [List.set_cons_zero, List.set_cons_succ]; exact rfl)))
  | with_reducible refine st_gN ?_
  | ((with_reducible refine' st_gT ?h1 ?h2 ?_); (case h1 => kpt_turns); (case h2 => exact rfl))
  | with_reducible refine st_gC ?_
  | with_reducible refine st_gE ?_
  | with_reducible refine st_gS ?_
  | ((with_reducible refine' st_setL ?h1 ?h2 ?_); (case h1 => lcg_off); (case h2 => exact rfl))
  | with_reducible refine st_lst ?_
  | with_reducible refine st_tup ?_
  | ((with_reducible refine st_new ?h ?_); (case h => (simp; done)))
  | with_reducible refine st_callN ?_
  | with_reducible refine st_bm ?_
  | with_reducible refine st_bm0 ?_
  | ((with_reducible refine' st_tyL ?h ?_); (case h => kpt_turns))
  | ((with_reducible refine st_eq ?h ?_); (case h => exact rfl))
  | ((with_reducible refine st_ne ?h ?_); (case h => exact rfl))
  | with_reducible refine st_i1 ?_
  | with_reducible refine st_i2 ?_
  | with_reducible refine st_int ?_
  | with_reducible refine st_intb ?_
  | ((with_reducible refine' st_lenQ ?h ?_); (case h => kpt_turns))
  | ((with_reducible refine' st_lenQT ?h ?_); (case h => kpt_turns))
  | with_reducible refine st_yes ?_
  | with_reducible refine st_brk ?_
  | with_reducible refine st_cont ?_
  | with_reducible refine st_retN ?_
  | with_reducible refine st_forI ?_
  | with_reducible refine st_lcI ?_
  | with_reducible refine st_itL ?_
  | with_reducible refine st_itT ?_
  | with_reducible refine st_rng1 ?_
  | with_reducible refine st_rng2 ?_
  | with_reducible refine st_ref ?_
  | with_reducible refine st_sl ?_
  | with_reducible refine st_pN ?_
  | with_reducible refine st_pS ?_
  | with_reducible refine st_pI ?_
  | (refine ⟨rfl, ?_⟩)
  | with_reducible refine st_ifE ?_
  | with_reducible refine st_ifS ?_)
local macro_rules | `(tactic| kpf_close) => `(tactic| first
  | cell_call
  | refine st_iD (fun _ => ?_) (fun _ => ?_)
  | refine st_iND (fun _ => ?_) (fun _ => ?_)
  | refine st_iNB (fun _ => ?_) (fun _ => ?_)
  | refine st_iB (fun _ => ?_) (fun _ => ?_))
local macro_rules | `(tactic| k_places) => `(tactic| first
  | with_reducible refine isi_non_bool ?_
  | with_reducible refine isi_non_int ?_
  | with_reducible refine isi_non_str ?_
  | with_reducible refine isi_non_list ?_
  | with_reducible refine isi_non_tuple ?_
  | with_reducible refine isi_bl_bool ?_
  | with_reducible refine isi_bl_int ?_
  | with_reducible refine isi_bl_str ?_
  | with_reducible refine isi_bl_list ?_
  | with_reducible refine isi_bl_tuple ?_
  | with_reducible refine isi_int_bool ?_
  | with_reducible refine isi_int_int ?_
  | with_reducible refine isi_int_str ?_
  | with_reducible refine isi_int_list ?_
  | with_reducible refine isi_int_tuple ?_
  | with_reducible refine isi_str_bool ?_
  | with_reducible refine isi_str_int ?_
  | with_reducible refine isi_str_str ?_
  | with_reducible refine isi_str_list ?_
  | with_reducible refine isi_str_tuple ?_
  | ((with_reducible refine' isi_list_bool ?h ?_); (case h => kpt_turns))
  | ((with_reducible refine' isi_list_int ?h ?_); (case h => kpt_turns))
  | ((with_reducible refine' isi_list_str ?h ?_); (case h => kpt_turns))
  | ((with_reducible refine' isi_list_list ?h ?_); (case h => kpt_turns))
  | ((with_reducible refine' isi_list_tuple ?h ?_); (case h => kpt_turns))
  | ((with_reducible refine' isi_tuple_bool ?h ?_); (case h => kpt_turns))
  | ((with_reducible refine' isi_tuple_int ?h ?_); (case h => kpt_turns))
  | ((with_reducible refine' isi_tuple_str ?h ?_); (case h => kpt_turns))
  | ((with_reducible refine' isi_tuple_list ?h ?_); (case h => kpt_turns))
  | ((with_reducible refine' isi_tuple_tuple ?h ?_); (case h => kpt_turns)))
section
variable {P : Program} {w : World} {K : PySem.W.Frag} {mg : Str → Option Value} {base : Heap}
theorem rn_far : rnN (24283, 31) 1 1200000000000000000000 = (1200000000000000024283, 28) := by decide +kernel
def sp_law (K : PySem.W.Frag) : Sp := fun vs H Q _ => ∃ (A : Addr) (ns : List Int), vs = [.ref A] ∧ SqL K H A (ns.map V.int) ∧ ns.length ≤ 63 ∧ ∀ H', Q (.bl true) H'
theorem ok_law (T : Txt K mg) : FnOk P w K mg base CX0 10 (He.ga K "law") T.fd_law ["script"] (sp_law K) := by
  refine T.F_law.ok sc_law (fun vs H Q E h => ?_) (fun cdv A outer s H vs Q E hr h => ?_)
  · obtain ⟨A, ns, rfl, _⟩ := h
    rfl
  · obtain ⟨A, ns, rfl, hA, hl, q⟩ := h
    refine ⟨_, PSs.nox (pss_cons (ps_for PassesOwn.never rfl (pi_range1 (by rfl) T.b_range (pa_cons (pe_callB (call_maxI rfl) (by rfl) T.b_max (by decide +kernel) (pa_cons pe_int (pa_cons (pe_callB (call_minI rfl) (by rfl) T.b_min (by decide +kernel) (pa_cons pe_int (pa_cons (pe_callB (show CallR _ _ (rLenQ K) from call_lenQ) (by rfl) T.b_len PySem.boot_len (pa_cons (pv 0) pa_nil)) pa_nil))) pa_nil))) pa_nil)) (pg_name (i := 1) sc_law.nd rfl (Or.inl rfl)) (pss_cons (ps_set (i := 2) sc_law.nd rfl (Or.inl rfl) (pe_call (ok_law_pool T) (hr.mono (by decide)) rfl T.g_law_pool T.F_law_pool.kp (b_law_pool T) .nil pass0 (pa_cons (pv 0) (pa_cons (pv 1) pa_nil))))
      (pss_one (ps_for PassesOwn.never rfl (pi_range1 (by rfl) T.b_range (pa_cons pe_int pa_nil)) (pg_name (i := 3) sc_law.nd rfl (Or.inl rfl)) (pss_one (ps_if (pt_not (pt_val (pe_call (ok_law_right T) (hr.mono (by decide)) rfl T.g_law_right T.F_law_right.kp (b_law_right T) .nil pass0 (pa_cons (pv 2) pa_nil)))) (pss_one (ps_ret pe_bl)) pss_nil))))))
      (pss_cons (ps_par (i := 4) (j := 5) (by rfl) sc_law.nd rfl rfl (by decide) rfl rfl (pa_cons (pe_call (ok_law_date T) (hr.mono (by decide)) rfl T.g_law_date T.F_law_date.kp (b_law_date T) .nil pass0 (pa_cons (pv 2) pa_nil)) (pa_cons (pe_call (ok_law_stride T) (hr.mono (by decide)) rfl T.g_law_stride T.F_law_stride.kp (b_law_stride T) .nil pass0 (pa_cons (pv 2) (pa_cons pe_int pa_nil))) pa_nil)) (by rfl))
      (pss_cons (ps_if (pt_cmpR (show OpR _ _ (rNeD K) from (op_neD hr.units)) (pe_call (ok_law_first T) (hr.mono (by decide)) rfl T.g_law_first T.F_law_first.kp (b_law_first T) .nil pass0 (pa_cons (pv 4) (pa_cons (pv 5) (pa_cons pe_int pa_nil)))) (pe_call (ok_law_along T) (hr.mono (by decide)) rfl T.g_law_along T.F_law_along.kp (b_law_along T) .nil pass0 (pa_cons (pv 4) (pa_cons (pe_op op_rep (pe_lst (pa_cons (pv 5) pa_nil)) pe_int) pa_nil))) (nomark _)) (pss_one (ps_ret pe_bl)) pss_nil)
      (pss_one (ps_ret (pe_cmpR (show OpR _ _ (rEqD K) from (op_eqD hr.units)) (pe_call (ok_renew T) (hr.mono (by decide)) rfl T.g_renew T.F_renew.kp (b_renew T) .nil pass0 (pa_cons (pe_tup (pa_cons pe_int (pa_cons pe_int (pa_cons pe_int pa_nil)))) (pa_cons pe_int (pa_cons (pe_op op_mul (pe_op op_pow pe_int pe_int) pe_int) pa_nil)))) (pe_tup (pa_cons (pe_op op_add (pe_op op_pow pe_int pe_int) pe_int) (pa_cons pe_int (pa_cons pe_int pa_nil)))) (nomark _))))))), ?_⟩
    rw [start_law]
    repeat cell_call
    rw [List.length_map]
    refine ⟨by omega, by omega, fR (fun i σ' H' => Same H H' ∧ ∃ x y z, σ' = [some (.ref A), x, y, z, none, none] ∧ (0 < i → ∃ S, y = some (.ref S) ∧ PoolAt H' S 1000)) ⟨Same.refl H, none, none, none, rfl, fun z => absurd z (by decide)⟩ (fun i σ1 H1 hi e => ?_) (fun σ1 H1 e => ?_)⟩
    · obtain ⟨sm, x, y, z, rfl, _⟩ := e
      repeat cell_call
      refine ⟨A, ns, _, rfl, sm.seq hA, by omega, by omega, fun S H2 nS F2 P2 => ?_⟩
      repeat cell_call
      have n0 : H S = none := same_free nS sm
      refine ⟨by omega, by omega, fR (fun j σ' H' => Same H H' ∧ PoolAt H' S (100 * j) ∧ ∃ z, σ' = [some (.ref A), some (.int (0 + i)), some (.ref S), z, none, none]) ⟨same_tr F2 sm, P2.mono (by omega), z, rfl⟩ (fun j σ3 H3 hj e => ?_) (fun σ3 H3 e => ?_)⟩
      · obtain ⟨sm3, P3, z3, rfl⟩ := e
        have hj2 : j < 4 := hj
        repeat cell_call
        refine ⟨S, _, rfl, P3, by omega, fun H4 P4 F4 => ?_⟩
        repeat cell_call
        exact ⟨Same.by sm3 n0 F4, P4.mono (by omega), _, rfl⟩
      · obtain ⟨sm3, P3, z3, rfl⟩ := e
        exact ⟨sm3, _, _, _, rfl, fun _ => ⟨S, rfl, P3.mono (by decide)⟩⟩
    · obtain ⟨sm, x, y, z, rfl, g⟩ := e
      obtain ⟨S, rfl, P1⟩ := g (by omega)
      clear sm
      repeat cell_call
      refine ⟨S, _, rfl, P1, by omega, fun B s H2 nB P2 F2 hB ho s0 s1 => ?_⟩
      repeat cell_call
      refine ⟨S, _, _, rfl, P2, by omega, by decide, by decide, fun k H3 k0 k1 P3 F3 => ?_⟩
      have eB : B ≠ S := P1.ne nB
      have hB3 : H3 B = some (.tup (dT s)) := by lcg_off
      clear P1 P2 P3 F2 F3 nB hB s0 s1 k0 k1 g
      repeat cell_call
      refine ⟨B, s, k, 5000, rfl, hB3, ho, by decide, by decide, fun q3 ts Hc sc nc hc3 hl hd => ?_⟩
      have E3 := dl_dts hl hd
      have hB4 := sc _ _ hB3
      clear hd hl sc hB3 nc
      repeat cell_call
      intro p2 n2
      repeat cell_call
      refine st_rep upd_same (by decide) (by decide) (by simp) fun L nL => ?_
      repeat cell_call
      have sm4 : Same Hc (upd (upd Hc p2 (.lst [.int k])) L (.lst (List.replicate (4999 : Int).toNat [V.int k]).flatten)) := same_trN nL (Same.new n2)
      refine ⟨B, L, s, List.replicate 4999 k, rfl, sm4 _ _ hB4, SqL.of (by rw [upd_same]; exact congrArg some (congrArg HO.lst (flat_rep 4999))), by rw [List.length_replicate]; decide, fun F ts2 H4 sm5 nF hF hl ha => ?_⟩
      have D4 : DL H4 (ts2.map V.ref) (dts s k 5000) := dl_dts (by rw [hl, List.length_replicate]) fun j hj => by
        obtain ⟨t, e1, e2⟩ := ha j (by rw [List.length_replicate]; omega)
        rw [rst_take s k (by omega)] at e2
        exact ⟨t, e1, e2⟩
      have E5 := E3.imp (TupK.same (same_tr sm5 sm4))
      have hq := sm5 _ _ (sm4 _ _ hc3)
      refine st_neD (d := .list ((dts s k 5000).map dD)) (.lst (SqL.of hq) E5.dp) (.lst (SqL.of hF) D4.dp) (Sm.sh (Sm.list (Sm.dates _)) (by decide)) ?_
      clear D4 E5 hq hF hl ha nF sm5 sm4 E3 hB4 hc3 n2 nL
      generalize dts s k 5000 = dd at *
      repeat cell_call
      intro p1 n1
      repeat cell_call
      have h1 : (upd H4 p1 (.tup [.int 2023, .int 8, .int 31])) p1 = some (.tup (dT (24283, 31))) := upd_same
      refine ⟨p1, (24283, 31), 1, 1200000000000000000000, rfl, SqT.of h1, ⟨by decide, by decide⟩, by decide, big_of (by decide) (by decide), big_of (by decide) (by decide), fun p2 H5 sm2 n2 hp => ?_⟩
      rw [rn_far] at hp
      repeat cell_call
      intro p3 n3
      refine st_eqD (d := dD (1200000000000000024283, 28)) (dp_date (by lcg_off)) ?_ rfl ?_
      · exact dp_date (by rw [upd_same]; rfl)
      · exact q _

end
end Mc
namespace Mc
open PySem PySem.Spec PyProof.Rows L2

def d_is_leap : He.DefD := ⟨("is_leap", none), "is_leap", "is_leap", defArgs s_is_leap, defBody s_is_leap, defScope s_is_leap, [], []⟩
def d_is_month : He.DefD := ⟨("is_month", none), "is_month", "is_month", defArgs s_is_month, defBody s_is_month, defScope s_is_month, [], []⟩
def d_length_of_month : He.DefD := ⟨("length_of_month", none), "length_of_month", "length_of_month", defArgs s_length_of_month, defBody s_length_of_month, defScope s_length_of_month, [], []⟩
def d_is_date : He.DefD := ⟨("is_date", none), "is_date", "is_date", defArgs s_is_date, defBody s_is_date, defScope s_is_date, [], []⟩
def d_check_date : He.DefD := ⟨("check_date", none), "check_date", "check_date", defArgs s_check_date, defBody s_check_date, defScope s_check_date, [], []⟩
def d_month_number : He.DefD := ⟨("month_number", none), "month_number", "month_number", defArgs s_month_number, defBody s_month_number, defScope s_month_number, [], []⟩
def d_length_of : He.DefD := ⟨("length_of", none), "length_of", "length_of", defArgs s_length_of, defBody s_length_of, defScope s_length_of, [], []⟩
def d_date_in : He.DefD := ⟨("date_in", none), "date_in", "date_in", defArgs s_date_in, defBody s_date_in, defScope s_date_in, [], []⟩
def d_check_times : He.DefD := ⟨("check_times", none), "check_times", "check_times", defArgs s_check_times, defBody s_check_times, defScope s_check_times, [], []⟩
def d_renew : He.DefD := ⟨("renew", none), "renew", "renew", defArgs s_renew, defBody s_renew, defScope s_renew, [], []⟩
def d_anchored : He.DefD := ⟨("anchored", none), "anchored", "anchored", defArgs s_anchored, defBody s_anchored, defScope s_anchored, [], []⟩
def d_renewal_dates : He.DefD := ⟨("renewal_dates", none), "renewal_dates", "renewal_dates", defArgs s_renewal_dates, defBody s_renewal_dates, defScope s_renewal_dates, [], []⟩
def d_law_pool : He.DefD := ⟨("_law_pool", none), "_law_pool", "_law_pool", defArgs s_law_pool, defBody s_law_pool, defScope s_law_pool, [], []⟩
def d_law_draw : He.DefD := ⟨("_law_draw", none), "_law_draw", "_law_draw", defArgs s_law_draw, defBody s_law_draw, defScope s_law_draw, [], []⟩
def d_law_days : He.DefD := ⟨("_law_days", none), "_law_days", "_law_days", defArgs s_law_days, defBody s_law_days, defScope s_law_days, [], []⟩
def d_law_great : He.DefD := ⟨("_law_great", none), "_law_great", "_law_great", defArgs s_law_great, defBody s_law_great, defScope s_law_great, [], []⟩
def d_law_date : He.DefD := ⟨("_law_date", none), "_law_date", "_law_date", defArgs s_law_date, defBody s_law_date, defScope s_law_date, [], []⟩
def d_law_stride : He.DefD := ⟨("_law_stride", none), "_law_stride", "_law_stride", defArgs s_law_stride, defBody s_law_stride, defScope s_law_stride, [], []⟩
def d_law_along : He.DefD := ⟨("_law_along", none), "_law_along", "_law_along", defArgs s_law_along, defBody s_law_along, defScope s_law_along, [], []⟩
def d_law_first : He.DefD := ⟨("_law_first", none), "_law_first", "_law_first", defArgs s_law_first, defBody s_law_first, defScope s_law_first, [], []⟩
def d_law_right : He.DefD := ⟨("_law_right", none), "_law_right", "_law_right", defArgs s_law_right, defBody s_law_right, defScope s_law_right, [], []⟩
def d_law : He.DefD := ⟨("law", none), "law", "law", defArgs s_law, defBody s_law, defScope s_law, [], []⟩
def fnL : List He.DefD := [d_is_leap, d_is_month, d_length_of_month, d_is_date, d_check_date, d_month_number, d_length_of, d_date_in, d_check_times, d_renew, d_anchored, d_renewal_dates, d_law_pool, d_law_draw, d_law_days, d_law_great, d_law_date, d_law_stride, d_law_along, d_law_first, d_law_right, d_law]
def faL : List He.Fa := [.glo "is_leap", .glo "is_month", .glo "length_of_month", .glo "is_date", .glo "check_date", .glo "month_number", .glo "length_of", .glo "date_in", .glo "check_times", .glo "renew", .glo "anchored", .glo "renewal_dates", .glo "_law_pool", .glo "_law_draw", .glo "_law_days", .glo "_law_great", .glo "_law_date", .glo "_law_stride", .glo "_law_along", .glo "_law_first", .glo "_law_right", .glo "law", .free "abs", .free "int", .free "isinstance", .free "len", .free "max", .free "min", .free "range", .free "tuple", .free "zip", .int "CYCLE" (4800), .int "FEBRUARY" (2), .int "MONTHS" (12), .glo "SHORT_MONTHS"]
def exL : PySem.W.Frag → Bool := fun K => He.tupB K "SHORT_MONTHS" [.int (4), .int (6), .int (9), .int (11)]
abbrev RW : PySem.W.OpenRow := PySem.W.OpenLaw.row PySem.Challenge.rw_monthclamp_k19_renewals_one_by_one
abbrev hkL : PySem.W.Hook := He.hookX 4 faL fnL [] [] exL
def obL (s : PySem.W.SharedT) : He.AlX := He.obsX 4 faL fnL [] [] exL (HandSHeadRun.getT s)
theorem obL_eq (s : PySem.W.SharedT) : obL s = hkL.obs s.abs := He.obsX_eq (HandSHeadRun.getT_eq s)
abbrev loL : List Str := (["DateError", "InvalidDate", "InvalidNumber", "SHORT_MONTHS", "FEBRUARY", "is_leap", "is_month", "length_of_month", "is_date", "check_date", "month_number", "length_of", "MONTHS", "CYCLE", "date_in", "check_times", "renew", "anchored", "renewal_dates", "_law_pool", "_law_draw", "_law_days", "_law_great", "_law_date", "_law_stride", "_law_along", "_law_first", "_law_right"] : List Str)
theorem runL (w : World) : HandSHeadRun.RunEq RW (PySem.W.view RW.prog [33]) hkL obL 3000 loL w := by
  intro os
  kernel_rfl
section
variable {K : PySem.W.Frag} {mg : Str → Option Value} {h : Heap} {w : World}
theorem txt_of (X : K.In h) (G : h.Ns mainGlobals mg) (c : He.SaysX faL fnL [] [] exL w h K) : ∃ _ : Txt K mg, True := by
  obtain ⟨fd0, F0⟩ := c.t.d.def_ 0 (d := d_is_leap) rfl
  obtain ⟨fd1, F1⟩ := c.t.d.def_ 1 (d := d_is_month) rfl
  obtain ⟨fd2, F2⟩ := c.t.d.def_ 2 (d := d_length_of_month) rfl
  obtain ⟨fd3, F3⟩ := c.t.d.def_ 3 (d := d_is_date) rfl
  obtain ⟨fd4, F4⟩ := c.t.d.def_ 4 (d := d_check_date) rfl
  obtain ⟨fd5, F5⟩ := c.t.d.def_ 5 (d := d_month_number) rfl
  obtain ⟨fd6, F6⟩ := c.t.d.def_ 6 (d := d_length_of) rfl
  obtain ⟨fd7, F7⟩ := c.t.d.def_ 7 (d := d_date_in) rfl
  obtain ⟨fd8, F8⟩ := c.t.d.def_ 8 (d := d_check_times) rfl
  obtain ⟨fd9, F9⟩ := c.t.d.def_ 9 (d := d_renew) rfl
  obtain ⟨fd10, F10⟩ := c.t.d.def_ 10 (d := d_anchored) rfl
  obtain ⟨fd11, F11⟩ := c.t.d.def_ 11 (d := d_renewal_dates) rfl
  obtain ⟨fd12, F12⟩ := c.t.d.def_ 12 (d := d_law_pool) rfl
  obtain ⟨fd13, F13⟩ := c.t.d.def_ 13 (d := d_law_draw) rfl
  obtain ⟨fd14, F14⟩ := c.t.d.def_ 14 (d := d_law_days) rfl
  obtain ⟨fd15, F15⟩ := c.t.d.def_ 15 (d := d_law_great) rfl
  obtain ⟨fd16, F16⟩ := c.t.d.def_ 16 (d := d_law_date) rfl
  obtain ⟨fd17, F17⟩ := c.t.d.def_ 17 (d := d_law_stride) rfl
  obtain ⟨fd18, F18⟩ := c.t.d.def_ 18 (d := d_law_along) rfl
  obtain ⟨fd19, F19⟩ := c.t.d.def_ 19 (d := d_law_first) rfl
  obtain ⟨fd20, F20⟩ := c.t.d.def_ 20 (d := d_law_right) rfl
  obtain ⟨fd21, F21⟩ := c.t.d.def_ 21 (d := d_law) rfl
  obtain ⟨t0, c0⟩ := He.int_ok X G (c.t.d.fact 31 (f := .int "CYCLE" (4800)) rfl)
  obtain ⟨t1, c1⟩ := He.int_ok X G (c.t.d.fact 32 (f := .int "FEBRUARY" (2)) rfl)
  obtain ⟨t2, c2⟩ := He.int_ok X G (c.t.d.fact 33 (f := .int "MONTHS" (12)) rfl)
  exact ⟨{ g_is_leap := He.glo_ok X G (c.t.d.fact 0 (f := .glo "is_leap") rfl), fd_is_leap := fd0, F_is_leap := F0, g_is_month := He.glo_ok X G (c.t.d.fact 1 (f := .glo "is_month") rfl), fd_is_month := fd1, F_is_month := F1, g_length_of_month := He.glo_ok X G (c.t.d.fact 2 (f := .glo "length_of_month") rfl), fd_length_of_month := fd2, F_length_of_month := F2, g_is_date := He.glo_ok X G (c.t.d.fact 3 (f := .glo "is_date") rfl), fd_is_date := fd3, F_is_date := F3, g_check_date := He.glo_ok X G (c.t.d.fact 4 (f := .glo "check_date") rfl), fd_check_date := fd4, F_check_date := F4, g_month_number := He.glo_ok X G (c.t.d.fact 5 (f := .glo "month_number") rfl), fd_month_number := fd5, F_month_number := F5, g_length_of := He.glo_ok X G (c.t.d.fact 6 (f := .glo "length_of") rfl), fd_length_of := fd6, F_length_of := F6, g_date_in := He.glo_ok X G (c.t.d.fact 7 (f := .glo "date_in") rfl), fd_date_in := fd7, F_date_in := F7, g_check_times := He.glo_ok X G (c.t.d.fact 8 (f := .glo "check_times") rfl), fd_check_times := fd8, F_check_times := F8, g_renew := He.glo_ok X G (c.t.d.fact 9 (f := .glo "renew") rfl), fd_renew := fd9, F_renew := F9, g_anchored := He.glo_ok X G (c.t.d.fact 10 (f := .glo "anchored") rfl), fd_anchored := fd10, F_anchored := F10, g_renewal_dates := He.glo_ok X G (c.t.d.fact 11 (f := .glo "renewal_dates") rfl), fd_renewal_dates := fd11, F_renewal_dates := F11, g_law_pool := He.glo_ok X G (c.t.d.fact 12 (f := .glo "_law_pool") rfl), fd_law_pool := fd12, F_law_pool := F12, g_law_draw := He.glo_ok X G (c.t.d.fact 13 (f := .glo "_law_draw") rfl), fd_law_draw := fd13, F_law_draw := F13, g_law_days := He.glo_ok X G (c.t.d.fact 14 (f := .glo "_law_days") rfl), fd_law_days := fd14, F_law_days := F14, g_law_great := He.glo_ok X G (c.t.d.fact 15 (f := .glo "_law_great") rfl), fd_law_great := fd15, F_law_great := F15, g_law_date := He.glo_ok X G (c.t.d.fact 16 (f := .glo "_law_date") rfl), fd_law_date := fd16, F_law_date := F16, g_law_stride := He.glo_ok X G (c.t.d.fact 17 (f := .glo "_law_stride") rfl), fd_law_stride := fd17, F_law_stride := F17, g_law_along := He.glo_ok X G (c.t.d.fact 18 (f := .glo "_law_along") rfl), fd_law_along := fd18, F_law_along := F18, g_law_first := He.glo_ok X G (c.t.d.fact 19 (f := .glo "_law_first") rfl), fd_law_first := fd19, F_law_first := F19, g_law_right := He.glo_ok X G (c.t.d.fact 20 (f := .glo "_law_right") rfl), fd_law_right := fd20, F_law_right := F20, g_law := He.glo_ok X G (c.t.d.fact 21 (f := .glo "law") rfl), fd_law := fd21, F_law := F21, b_abs := He.free_ok X G (c.t.d.fact 22 (f := .free "abs") rfl), b_int := He.free_ok X G (c.t.d.fact 23 (f := .free "int") rfl), b_isinstance := He.free_ok X G (c.t.d.fact 24 (f := .free "isinstance") rfl), b_len := He.free_ok X G (c.t.d.fact 25 (f := .free "len") rfl), b_max := He.free_ok X G (c.t.d.fact 26 (f := .free "max") rfl), b_min := He.free_ok X G (c.t.d.fact 27 (f := .free "min") rfl), b_range := He.free_ok X G (c.t.d.fact 28 (f := .free "range") rfl), b_tuple := He.free_ok X G (c.t.d.fact 29 (f := .free "tuple") rfl), b_zip := He.free_ok X G (c.t.d.fact 30 (f := .free "zip") rfl), c_CYCLE := ⟨t0, c0⟩, c_FEBRUARY := ⟨t1, c1⟩, c_MONTHS := ⟨t2, c2⟩, g_SHORT_MONTHS := He.glo_ok X G (c.t.d.fact 34 (f := .glo "SHORT_MONTHS") rfl), t_SHORT_MONTHS := fun H => He.tupB_ok c.more H }, trivial⟩
end
end Mc
open PySem PySem.W PySem.Calls PyProof.Rows
set_option maxRecDepth 100000 in
set_option maxHeartbeats 0 in
theorem PySem.Challenge.cw_monthclamp_k19_renewals_one_by_one_holds : PySem.Challenge.rw_monthclamp_k19_renewals_one_by_one.Holds := by
  w_on; o_law
  refine HandSHeadRun.head_any (r := Mc.RW) (q := view Mc.RW.prog [33]) (H := Mc.hkL) (ob := Mc.obL) (M := 3000) (loose := Mc.loL) (d := HandSHeadRun.topDef Mc.RW.prog 33) (kwd := []) Mc.obL_eq
    (by kernel_rfl) (fun s => by kernel_rfl) Mc.runL (by kernel_rfl) (by kernel_rfl) (by kernel_rfl) (by rfl) (by first | assumption | decide +kernel) (by decide +kernel) ⟨rfl, rfl, rfl, rfl, rfl, by decide +kernel⟩ ?hw ?hc
  case hw => w_witness2
  case hc =>
    refine L2.walk_ofE (l := PySem.Challenge.rw_monthclamp_k19_renewals_one_by_one) (n := 63) (k := 10) (x := "script") (CX := L2.CX0) rfl (by decide) (by kernel_rfl) ⟨rfl, by decide, by decide⟩ ?F (fun _ _ _ _ z => z)
    intro w mg fa h Y G hmg0
    obtain ⟨K, KX, c⟩ := Y
    have hmg : mg ("law" : PySem.Str) = some (.ref fa) := by
      have e : (HandSHeadRun.topDef Mc.RW.prog 33).name = ("law" : PySem.Str) := by kernel_rfl
      rw [← e]
      exact hmg0
    obtain ⟨T, _⟩ := Mc.txt_of KX G c
    have e := hmg.symm.trans T.g_law
    cases e
    exact ⟨K, T.fd_law, Mc.sp_law K, KX, fun s v => L2.FunD.bindsA (ps := ["script"]) T.F_law (fun _ _ _ _ _ _ us hl => match us, hl with | [_], _ => rfl) s [v] rfl, fun H a ns hl _ hS => ⟨a, ns, rfl, hS, hl, fun _ => rfl⟩, fun base _ _ => Mc.ok_law T⟩
