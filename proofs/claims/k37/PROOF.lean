import PyProof.Rows.All
import Wide.All
import OpenK.AllK
import Wide.FinOn
import HandS.ForMost
import HandS.Exc
import HandS.ExcOwn
import HandS.Wide
import HandS.WideMore
import HandS.IsInst
import HandS.TupLe
import HandS.Defaults
import HandS.HeadEnd
import HandS.HeadHook1
import HandS.HeadHook2
import HandS.HeadHook3
import HandS.Head0
import HandS.Head1
import HandS.Head2
import HandS.More
import HandS.Codes
import HandS.Flow
import HandS.TupAny
import HandS.Property
import HandS.DictComp
import HandS.Conv
import HandS.ClsMeth
import HandS.FStr
import KE.KCallOwn
import HandS.GenList
import HandS.GenYield
import HandS.HeadHook4
import HandS.SortInts
import HandS.SetFor
import KE.GoesEnum
import HandS.Ends
import PyProof.ReprRoads
import HandS.Style
import PySem.Challenge.RW_learntbooks_k37_lengths_and_row_counts
set_option Elab.async false
set_option linter.all false
set_option maxRecDepth 100000
set_option maxHeartbeats 4000000

namespace LB
open PySem PySem.Spec PyProof.Rows L2

/-! ## stepping lemmas: a reading's head is unfolded, what follows stays closed -/
section
variable {K : PySem.W.Frag} {D : Ends} {σ : L2.St} {H : Hp} {Q : VK} {ta tb tc te : TE} {tA tB' : TT} {t u : TS} {i : Nat} {v x y : V} {r : R2}

theorem w_seq (q : t { D with nx := u D } σ H) : tSeq t u D σ H := q
theorem w_seqA {g : TG} (q : tAsg te g { D with nx := u D } σ H) : tSeq (tAsg te g) u D σ H := q
theorem w_seqE (q : tDrop te { D with nx := u D } σ H) : tSeq (tDrop te) u D σ H := q
theorem w_seqG {ti : TIp} (q : tAug i te ti { D with nx := u D } σ H) : tSeq (tAug i te ti) u D σ H := q
theorem w_seqP {j : Nat} {ts : TA} (q : tPar i j ts { D with nx := u D } σ H) : tSeq (tPar i j ts) u D σ H := q
/-- the ways of t meet in Mid -/
theorem w_join (Mid : L2.St → Hp → Prop) (h : ∀ X : L2.St → Hp → Prop, (∀ σ' H', Mid σ' H' → X σ' H') → t { D with nx := X } σ H) (hX : ∀ σ' H', Mid σ' H' → u D σ' H') : tSeq t u D σ H := h (u D) hX
theorem w_two {P : V → V → Prop} (q : P x y) : ∃ v w, [x, y] = [v, w] ∧ P v w := ⟨x, y, rfl, q⟩
/-- the ways of an expression meet in Mid -/
theorem w_val (Mid : V → Hp → Prop) (h : ∀ X : VK, (∀ v H', Mid v H' → X v H') → te σ H X) (hQ : ∀ v H', Mid v H' → Q v H') : te σ H Q := h Q hQ
theorem w_par {j : Nat} {ts : TA} (q : ts σ H fun vs H1 => ∃ v w, vs = [v, w] ∧ gName i v σ H1 fun σ1 H2 => gName j w σ1 H2 D.nx) : tPar i j ts D σ H := q
theorem w_nx {f bk ct : L2.St → Hp → Prop} {rt : VK} (q : f σ H) : (Ends.mk f rt bk ct).nx σ H := q
theorem w_bk {f bk ct : L2.St → Hp → Prop} {rt : VK} (q : bk σ H) : (Ends.mk f rt bk ct).bk σ H := q
theorem w_ct {f bk ct : L2.St → Hp → Prop} {rt : VK} (q : ct σ H) : (Ends.mk f rt bk ct).ct σ H := q
theorem w_rt {f bk ct : L2.St → Hp → Prop} {rt : VK} (q : rt v H) : (Ends.mk f rt bk ct).rt v H := q
theorem w_next (q : D.nx σ H) : tNext D σ H := q
theorem w_brk (q : D.bk σ H) : tBreak D σ H := q
theorem w_cont (q : D.ct σ H) : tCont D σ H := q
theorem w_drop (q : te σ H fun _ H1 => D.nx σ H1) : tDrop te D σ H := q
theorem w_ret (q : te σ H D.rt) : tRet te D σ H := q
theorem w_retN (q : D.rt .non H) : tRetN D σ H := q
theorem w_asg {g : TG} (q : te σ H fun x H1 => g x σ H1 D.nx) : tAsg te g D σ H := q
theorem w_ifS (q : tA σ H fun b H1 => if b = true then t D σ H1 else u D σ H1) : tIfS tA t u D σ H := q
theorem w_aug {ti : TIp} (h : σ[i]? = some (some x)) (q : te σ H fun y H1 => ti x y H1 fun z H2 => D.nx (σ.set i (some z)) H2) : tAug i te ti D σ H := ⟨x, h, q⟩
theorem w_var (h : σ[i]? = some (some v)) (q : Q v H) : tVar i σ H Q := ⟨v, h, q⟩
theorem w_c (q : Q v H) : tC v σ H Q := q
theorem w_op (q : ta σ H fun x H1 => tb σ H1 fun y H2 => r x y H2 Q) : tOp r ta tb σ H Q := q
theorem w_un {r : V → Hp → VK → Prop} (q : ta σ H fun x H1 => r x H1 Q) : tUn r ta σ H Q := q
theorem w_if (q : tA σ H fun c H1 => if c = true then ta σ H1 Q else tb σ H1 Q) : tIf tA ta tb σ H Q := q
theorem w_andV (q : ta σ H fun x H1 => ∃ c, x = .bl c ∧ if c = true then tb σ H1 Q else Q (.bl false) H1) : tAndV ta tb σ H Q := q
theorem w_orV (q : ta σ H fun x H1 => ∃ c, x = .bl c ∧ if c = true then Q (.bl true) H1 else tb σ H1 Q) : tOrV ta tb σ H Q := q
theorem w_notV (q : ta σ H fun x H1 => ∃ c, x = .bl c ∧ Q (.bl (!c)) H1) : tNotV ta σ H Q := q
theorem w_bl {c : Bool} {P : Bool → Prop} (q : P c) : ∃ b, V.bl c = .bl b ∧ P b := ⟨c, rfl, q⟩
theorem w_test {R : Bool → Hp → Prop} (q : te σ H fun x H' => ∃ k, x = .bl k ∧ R k H') : tTest te σ H R := q
theorem w_B {R : Bool → Hp → Prop} (q : te σ H fun x H1 => ∃ c, x = .bl c ∧ R c H1) : tB te σ H R := q
theorem w_and {R : Bool → Hp → Prop} (q : tA σ H fun c H1 => if c = true then tB' σ H1 R else R false H1) : tAnd tA tB' σ H R := q
theorem w_or {R : Bool → Hp → Prop} (q : tA σ H fun c H1 => if c = true then R true H1 else tB' σ H1 R) : tOr tA tB' σ H R := q
theorem w_not {R : Bool → Hp → Prop} (q : tA σ H fun c H1 => R (!c) H1) : tNot tA σ H R := q
theorem w_chain {r' : R2} (q : ta σ H fun x H1 => tb σ H1 fun y H2 => r x y H2 fun z H3 => ∃ k, z = .bl k ∧ (if k = true then tc σ H3 fun w' H4 => r' y w' H4 Q else Q (.bl false) H3)) : tChain r r' ta tb tc σ H Q := q
theorem w_nil {R : List V → Hp → Prop} (q : R [] H) : tNil σ H R := q
theorem w_cons {ts : TA} {R : List V → Hp → Prop} (q : ta σ H fun x H1 => ts σ H1 fun xs H2 => R (x :: xs) H2) : tCons ta ts σ H R := q
theorem w_lst {ts : TA} (q : ts σ H fun xs H1 => xs.length ≤ sizeLine ∧ ∀ p, H1 p = none → Q (.ref p) (upd H1 p (.lst xs))) : tLst ts σ H Q := q
theorem w_tup {ts : TA} (q : ts σ H fun xs H1 => xs.length ≤ sizeLine ∧ ∀ p, H1 p = none → Q (.ref p) (upd H1 p (.tup xs))) : tTup ts σ H Q := q
theorem w_call {sp : Sp} {dvs : List V} {E : XK} {ts : TA} (q : ts σ H fun vs H1 => sp (vs ++ dvs) H1 Q E) : tCall sp dvs E ts σ H Q := q
theorem w_callN {n m : Nat} {sp : Sp} {gV : List V → List V → List V} {E : XK} {ts tk : TA} (q : ts σ H fun vs H1 => tk σ H1 fun zs H2 => vs.length = n ∧ zs.length = m ∧ sp (gV vs zs) H2 Q E) : tCallN n m sp gV E ts tk σ H Q := q
theorem w_cb {r : List V → Hp → VK → Prop} {ts : TA} (q : ts σ H fun vs H1 => r vs H1 Q) : tCB r ts σ H Q := q
theorem w_I0 {g : Int → Int → V} {a b : Int} (q : Q (g a b) H) : rI0 g (.int a) (.int b) H Q := ⟨a, b, rfl, rfl, q⟩
theorem w_I {C : Int → Int → Prop} {g : Int → Int → V} {a b : Int} (c : C a b) (q : Q (g a b) H) : rI C g (.int a) (.int b) H Q := ⟨a, b, rfl, rfl, c, q⟩
theorem w_U {g : Int → V} {a : Int} (q : Q (g a) H) : rU g (.int a) H Q := ⟨a, rfl, q⟩
theorem w_eq (s : scal x y = true) (q : Q (.bl (decide (x = y))) H) : rEq x y H Q := ⟨s, q⟩
theorem w_ne (s : scal x y = true) (q : Q (.bl (!decide (x = y))) H) : rNe x y H Q := ⟨s, q⟩
theorem w_sl {r : V → Option Int → Option Int → Hp → VK → Prop} {tl th : TO} (q : te σ H fun x H1 => tl σ H1 fun l H2 => th σ H2 fun u H3 => r x l u H3 Q) : tSl r te tl th σ H Q := q
theorem w_noPart {R : Option Int → Hp → Prop} (q : R none H) : tNoPart σ H R := q
theorem w_part {R : Option Int → Hp → Prop} (q : te σ H fun x H1 => ∃ i, x = .int i ∧ R (some i) H1) : tPart te σ H R := q
theorem w_int {a : Int} {P : Int → Prop} (q : P a) : ∃ i, V.int a = .int i ∧ P i := ⟨a, rfl, q⟩
variable {a0 a1 a2 a3 a4 a5 a6 a7 a8 a9 b0 b1 b2 b3 : Option V} {rs : L2.St} {R : L2.St → Hp → Prop}
theorem w_v0 (q : Q v H) : tVar 0 (some v :: rs) H Q := ⟨v, rfl, q⟩
theorem w_v1 (q : Q v H) : tVar 1 (a0 :: some v :: rs) H Q := ⟨v, rfl, q⟩
theorem w_v2 (q : Q v H) : tVar 2 (a0 :: a1 :: some v :: rs) H Q := ⟨v, rfl, q⟩
theorem w_v3 (q : Q v H) : tVar 3 (a0 :: a1 :: a2 :: some v :: rs) H Q := ⟨v, rfl, q⟩
theorem w_v4 (q : Q v H) : tVar 4 (a0 :: a1 :: a2 :: a3 :: some v :: rs) H Q := ⟨v, rfl, q⟩
theorem w_v5 (q : Q v H) : tVar 5 (a0 :: a1 :: a2 :: a3 :: a4 :: some v :: rs) H Q := ⟨v, rfl, q⟩
theorem w_v6 (q : Q v H) : tVar 6 (a0 :: a1 :: a2 :: a3 :: a4 :: a5 :: some v :: rs) H Q := ⟨v, rfl, q⟩
theorem w_v7 (q : Q v H) : tVar 7 (a0 :: a1 :: a2 :: a3 :: a4 :: a5 :: a6 :: some v :: rs) H Q := ⟨v, rfl, q⟩
theorem w_v8 (q : Q v H) : tVar 8 (a0 :: a1 :: a2 :: a3 :: a4 :: a5 :: a6 :: a7 :: some v :: rs) H Q := ⟨v, rfl, q⟩
theorem w_v9 (q : Q v H) : tVar 9 (a0 :: a1 :: a2 :: a3 :: a4 :: a5 :: a6 :: a7 :: a8 :: some v :: rs) H Q := ⟨v, rfl, q⟩
theorem w_v10 (q : Q v H) : tVar 10 (a0 :: a1 :: a2 :: a3 :: a4 :: a5 :: a6 :: a7 :: a8 :: a9 :: some v :: rs) H Q := ⟨v, rfl, q⟩
theorem w_v11 (q : Q v H) : tVar 11 (a0 :: a1 :: a2 :: a3 :: a4 :: a5 :: a6 :: a7 :: a8 :: a9 :: b0 :: some v :: rs) H Q := ⟨v, rfl, q⟩
theorem w_v12 (q : Q v H) : tVar 12 (a0 :: a1 :: a2 :: a3 :: a4 :: a5 :: a6 :: a7 :: a8 :: a9 :: b0 :: b1 :: some v :: rs) H Q := ⟨v, rfl, q⟩
theorem w_g0 (q : R (some v :: rs) H) : gName 0 v (a0 :: rs) H R := q
theorem w_g1 (q : R (a0 :: some v :: rs) H) : gName 1 v (a0 :: a1 :: rs) H R := q
theorem w_g2 (q : R (a0 :: a1 :: some v :: rs) H) : gName 2 v (a0 :: a1 :: a2 :: rs) H R := q
theorem w_g3 (q : R (a0 :: a1 :: a2 :: some v :: rs) H) : gName 3 v (a0 :: a1 :: a2 :: a3 :: rs) H R := q
theorem w_g4 (q : R (a0 :: a1 :: a2 :: a3 :: some v :: rs) H) : gName 4 v (a0 :: a1 :: a2 :: a3 :: a4 :: rs) H R := q
theorem w_g5 (q : R (a0 :: a1 :: a2 :: a3 :: a4 :: some v :: rs) H) : gName 5 v (a0 :: a1 :: a2 :: a3 :: a4 :: a5 :: rs) H R := q
theorem w_g6 (q : R (a0 :: a1 :: a2 :: a3 :: a4 :: a5 :: some v :: rs) H) : gName 6 v (a0 :: a1 :: a2 :: a3 :: a4 :: a5 :: a6 :: rs) H R := q
theorem w_g7 (q : R (a0 :: a1 :: a2 :: a3 :: a4 :: a5 :: a6 :: some v :: rs) H) : gName 7 v (a0 :: a1 :: a2 :: a3 :: a4 :: a5 :: a6 :: a7 :: rs) H R := q
theorem w_g8 (q : R (a0 :: a1 :: a2 :: a3 :: a4 :: a5 :: a6 :: a7 :: some v :: rs) H) : gName 8 v (a0 :: a1 :: a2 :: a3 :: a4 :: a5 :: a6 :: a7 :: a8 :: rs) H R := q
theorem w_g9 (q : R (a0 :: a1 :: a2 :: a3 :: a4 :: a5 :: a6 :: a7 :: a8 :: some v :: rs) H) : gName 9 v (a0 :: a1 :: a2 :: a3 :: a4 :: a5 :: a6 :: a7 :: a8 :: a9 :: rs) H R := q
theorem w_g10 (q : R (a0 :: a1 :: a2 :: a3 :: a4 :: a5 :: a6 :: a7 :: a8 :: a9 :: some v :: rs) H) : gName 10 v (a0 :: a1 :: a2 :: a3 :: a4 :: a5 :: a6 :: a7 :: a8 :: a9 :: b0 :: rs) H R := q
theorem w_g11 (q : R (a0 :: a1 :: a2 :: a3 :: a4 :: a5 :: a6 :: a7 :: a8 :: a9 :: b0 :: some v :: rs) H) : gName 11 v (a0 :: a1 :: a2 :: a3 :: a4 :: a5 :: a6 :: a7 :: a8 :: a9 :: b0 :: b1 :: rs) H R := q
theorem w_g12 (q : R (a0 :: a1 :: a2 :: a3 :: a4 :: a5 :: a6 :: a7 :: a8 :: a9 :: b0 :: b1 :: some v :: rs) H) : gName 12 v (a0 :: a1 :: a2 :: a3 :: a4 :: a5 :: a6 :: a7 :: a8 :: a9 :: b0 :: b1 :: b2 :: rs) H R := q
end

/-! ## calls: one record a def -/
section
variable (P : Program) (w : World) (K : PySem.W.Frag) (mg : Str → Option Value) (base : Heap)
/-- a def of the text, its promise, how it is bound by place -/
structure Dn (k : Nat) (x : Str) (st : Stmt) (ps : List Str) (sp : Sp) : Prop where
  ex : ∃ (f : Addr) (fd : FuncData), FunD K x x (defArgs st) (defBody st) (defScope st) [] [] f fd ∧ FnOk P w K mg base CX0 k f fd ps sp ∧ mg x = some (.ref f) ∧ Binds K fd ps []
end
/-- the items with these indexes -/
def sel {α : Type} (ix : List Nat) (xs : List α) : List α := ix.filterMap fun i => xs[i]?
theorem sel_rel {xs : List V} {us : List Value} (r : Vals xs us) : ∀ ix : List Nat, Vals (sel ix xs) (sel ix us)
  | [] => .nil
  | i :: ix => by
    have t := sel_rel r ix
    unfold sel at t ⊢
    rw [List.filterMap_cons, List.filterMap_cons]
    cases h : xs[i]? with
    | none =>
      rw [r.none_of h]
      exact t
    | some x =>
      obtain ⟨u, h1, h2⟩ := r.get h
      rw [h1]
      exact .cons h2 t
section
variable {P : Program} {w : World} {K : PySem.W.Frag} {mg : Str → Option Value} {base : Heap} {x : Str} {st : Stmt} {ps ks : List Str} {sp : Sp} {k n : Nat} {f : Addr} {fd : FuncData} {dvs : List V} {kws : List (Str × V)}
/-- keywords: ix puts the written values in the parameters' order -/
structure KwOk (st : Stmt) (x : Str) (ps : List Str) (n : Nat) (ks : List Str) (ix : List Nat) : Prop where
  h : ∀ (kV doc pm : Value) (an : Option Addr) (cdv ct : Value) (us ws : List Value), us.length = n → ws.length = ks.length →
    bindArgs (PySem.W.fnOf x x (defArgs st) (defBody st) (defScope st) .none kV doc pm an cdv ct) ⟨us, ks.zip ws⟩ = pure (ps.zip (sel ix (us ++ ws)))
theorem kbn_of {ix : List Nat} (F : FunD K x x (defArgs st) (defBody st) (defScope st) [] [] f fd) (o : KwOk st x ps n ks ix) : KBn K fd ps n ks (fun us ws => sel ix (us ++ ws)) (fun vs zs => sel ix (vs ++ zs)) := by
  obtain ⟨oc, od, dV, kV, doc, pm, an, cdv, ct, osl, rfl, lk, hcd, hD, hK⟩ := F.ex
  rcases hD with ⟨_, rfl⟩ | ⟨e, _⟩
  · exact ⟨fun s us ws _ l1 l2 => .of_eq (o.h kV doc pm an cdv ct us ws l1 l2), fun r1 r2 => sel_rel (r1.append r2) ix⟩
  · exact absurd rfl e
end
section
variable {X : Cx} {k j n : Nat} {x : Str} {st : Stmt} {ps ks : List Str} {sp : Sp} {p pos : Pos} {e : Expr} {es : List Expr} {kws : List Keyword} {t tk : TA} {ix : List Nat}
theorem pe_d (c : Dn X.prog X.w X.K X.mg X.base k x st ps sp) (hr : Room j X.A) (hk : k ≤ j) (hg : Gl X x) (ha : PA X (e :: es) t)
    (hdb : (x == ("__debug__" : Str)) = false := by decide) (he : starEach (e :: es) X.env = (false, eval e X.env) :: starEach es X.env := by rfl) (hpl : (backTo pos (starEach es X.env)).any (·.1) = false := by rfl) :
    PE X (.Call (.Name x p) (e :: es) [] pos) (tCall sp [] E0 t) := by
  obtain ⟨f, fd, F, ok, hm, b⟩ := c.ex
  exact pe_call ok (hr.mono hk) hg hm F.kp b .nil pass0 ha hdb he hpl
theorem pe_d0 (c : Dn X.prog X.w X.K X.mg X.base k x st ps sp) (hr : Room j X.A) (hk : k ≤ j) (hg : Gl X x)
    (hdb : (x == ("__debug__" : Str)) = false := by decide) : PE X (.Call (.Name x p) [] [] pos) (tCall sp [] E0 tNil) := by
  obtain ⟨f, fd, F, ok, hm, b⟩ := c.ex
  exact pe_call0 ok (hr.mono hk) hg hm F.kp b .nil pass0 hdb
theorem pe_dN (c : Dn X.prog X.w X.K X.mg X.base k x st ps sp) (hr : Room j X.A) (hk : k ≤ j) (hg : Gl X x) (o : KwOk st x ps n ks ix) (ha : PA X (e :: es) t) (hkw : PK X kws tk)
    (hall : (backToKw pos (keywordEach kws X.env)).all (·.1.isSome) = true := by rfl) (hks : (backToKw pos (keywordEach kws X.env)).filterMap (·.1) = ks := by rfl)
    (hdb : (x == ("__debug__" : Str)) = false := by decide) (he : starEach (e :: es) X.env = (false, eval e X.env) :: starEach es X.env := by rfl)
    (hpl : ((backTo pos (starEach (e :: es) X.env)).any (·.1) || (backToKw pos (keywordEach kws X.env)).any (·.1.isNone)) = false := by rfl) :
    PE X (.Call (.Name x p) (e :: es) kws pos) (tCallN n ks.length sp (fun vs zs => sel ix (vs ++ zs)) E0 t tk) := by
  obtain ⟨f, fd, F, ok, hm, b⟩ := c.ex
  exact pe_callN ok (hr.mono hk) hg hm F.kp (kbn_of F o) pass0 ha hkw hall hks hdb he hpl
/-- f(k = v, ..): keywords alone -/
theorem pe_dN0 (c : Dn X.prog X.w X.K X.mg X.base k x st ps sp) (hr : Room j X.A) (hk : k ≤ j) (hg : Gl X x) (o : KwOk st x ps 0 ks ix) (hkw : PK X kws tk)
    (hall : (backToKw pos (keywordEach kws X.env)).all (·.1.isSome) = true := by rfl) (hks : (backToKw pos (keywordEach kws X.env)).filterMap (·.1) = ks := by rfl)
    (hdb : (x == ("__debug__" : Str)) = false := by decide)
    (hpl : ((backTo pos (starEach [] X.env)).any (·.1) || (backToKw pos (keywordEach kws X.env)).any (·.1.isNone)) = false := by rfl) :
    PE X (.Call (.Name x p) [] kws pos) (tCallN 0 ks.length sp (fun vs zs => sel ix (vs ++ zs)) E0 tNil tk) := by
  obtain ⟨f, fd, F, ok, hm, b⟩ := c.ex
  refine ⟨fun pins s σ H Q I h => ?_⟩
  refine wpAny_Call_Name_kw (ld_glob I hg hm ?_ hdb)
  refine PySem.W.callWith_KW0 (h₀ := X.base) I.ok.mod.kin F.kp hall ?_ hpl
  obtain h : tk σ H fun zs H2 => ([] : List V).length = 0 ∧ zs.length = ks.length ∧ sp (sel ix ([] ++ zs)) H2 Q E0 := h
  refine thn (hkw.run pos pins s σ H _ I h) fun ws s2 ⟨zs, H2, I2, rz, l1, l2, q2⟩ => ⟨I2.kIn, ?_⟩
  rw [hks]
  exact run_fnN ok (hr.mono hk) (kbn_of F o) pass0 I2 .nil rz l1 l2 q2
end

section
variable {P : Program} {w : World} {K : PySem.W.Frag} {mg : Str → Option Value} {base : Heap} {x : Str} {st : Stmt} {ps N : List Str} {sp : Sp} {k : Nat}
/-- a def of the text as it stands behind the top -/
def FD (K : PySem.W.Frag) (mg : Str → Option Value) (x : Str) (st : Stmt) : Prop := ∃ (f : Addr) (fd : FuncData), FunD K x x (defArgs st) (defBody st) (defScope st) [] [] f fd ∧ mg x = some (.ref f)
theorem fd_of {f : Addr} (h : ∃ fd, FunD K x x (defArgs st) (defBody st) (defScope st) [] [] f fd) (g : mg x = some (.ref f)) : FD K mg x st :=
  let ⟨fd, F⟩ := h
  ⟨f, fd, F, g⟩
theorem glob_of {v : V} {α : Type} {q : α → Value} (h : ∃ t, mg x = some (q t)) (r : ∀ t, RelV v (q t)) : ∃ u, mg x = some u ∧ RelV v u :=
  let ⟨t, e⟩ := h
  ⟨_, e, r t⟩
theorem glob_i {i : Int} (h : ∃ t, mg x = some (.int i t)) : ∃ u, mg x = some u ∧ RelV (.int i) u := glob_of h fun t => ⟨t, rfl⟩
theorem glob_s {z : Str} (h : ∃ t, mg x = some (.str z t)) : ∃ u, mg x = some u ∧ RelV (.str z) u := glob_of h fun t => ⟨t, rfl⟩
/-- THE RULE for a def -/
theorem dn_of (F : FD K mg x st) (hbind : ∀ (kV doc pm : Value) (an : Option Addr) (cdv ct : Value) (us : List Value), us.length = ps.length → bindArgs (PySem.W.fnOf x x (defArgs st) (defBody st) (defScope st) .none kV doc pm an cdv ct) ⟨us, []⟩ = pure (ps.zip us))
    (S : FnScope N ps (defScope st)) (len : ∀ vs H Q E, sp vs H Q E → vs.length = ps.length)
    (hbody : ∀ (f : Addr) (cdv : Value) (A : Around) (outer : List Env) (s : Shared) (H : Hp) (vs : List V) (Q : VK) (E : XK), Room k (A.deeper (envOfC x (defScope st) s.heap.objs.size f cdv)) → sp vs H Q E →
      ∃ t, PSs (cxOf CX0 P w K mg base N x (defScope st) f cdv A outer s H E) (defBody st) t ∧ t { nx := fun _ H' => Q .non H', rt := Q } (start N vs) H) : Dn P w K mg base (k + 1) x st ps sp := by
  obtain ⟨f, fd, F, g⟩ := F
  exact ⟨f, fd, F, F.ok S len fun cdv A outer s H vs Q E hr h => hbody f cdv A outer s H vs Q E hr h, g, F.bindsN hbind⟩
end

/-- a module's constant -/
theorem pe_gv {X : Cx} {x : Str} {v : V} {pos : Pos} (hg : Gl X x) (h : ∃ u, X.mg x = some u ∧ RelV v u) (hd : (x == ("__debug__" : Str)) = false := by decide) : PE X (.Name x pos) (tC v) :=
  let ⟨_, hm, r⟩ := h
  pe_glob hg hm r hd
/-! ## operators that the layer lacks -/
section
variable {X : Cx}
/-- text * int -/
def rMulS : R2 := fun x y H Q => ∃ (z : Str) (n : Int), x = .str z ∧ y = .int n ∧ (2 ≤ n ∧ n ≤ 100000 ∧ 0 < z.length ∧ z.length * n.toNat ≤ sizeLine) ∧ Q (.str ⟨(List.replicate n.toNat z.cps).foldl (· ++ ·) #[]⟩) H
theorem size_rep (a : Array Nat) : ∀ (m : Nat) (acc : Array Nat), ((List.replicate m a).foldl (· ++ ·) acc).size = acc.size + m * a.size
  | 0, acc => by simp
  | m + 1, acc => by
    rw [List.replicate_succ, List.foldl_cons, size_rep a m, Array.size_append, Nat.succ_mul]
    omega
theorem op_mulS : OpR X (binaryOp .Mult) rMulS := by
  intro pins s σ H x y v u Q I rx ry h
  obtain ⟨z, n, rfl, rfl, ⟨h1, h2, h3, h4⟩, q⟩ := h
  obtain ⟨t, rfl⟩ := rx
  obtain ⟨t', rfl⟩ := ry
  have e2 : z.length * n.toNat ≤ 16777216 := by
    have e := sizeLine_eq
    omega
  refine PySem.P.mul_str ?_ ?_ ?_ ?_
  · rw [decide_eq_false (by omega), decide_eq_false (by omega)]
    rfl
  · intro _ _ hgt
    have e1 : (z.length : Int) * n ≤ 16777216 := by
      have e3 : ((n.toNat : Nat) : Int) = n := Int.toNat_of_nonneg (by omega)
      have e4 : ((z.length * n.toNat : Nat) : Int) ≤ ((16777216 : Nat) : Int) := Int.ofNat_le.mpr e2
      rw [Int.natCast_mul, e3] at e4
      exact e4
    have e5 : (z.length : Int) ≤ (2 ^ 63 - 1) / n := by
      rw [Int.le_ediv_iff_mul_le (by omega)]
      omega
    omega
  · intro _ _
    unfold PySem.Builtin.Str.tooLong
    rw [decide_eq_false_iff_not]
    omega
  · have n1 : ¬ n < 1 := by omega
    have n2 : (n == 1 || z.length == 0) = false := by
      rw [Bool.or_eq_false_iff]
      exact ⟨beq_eq_false_iff_ne.mpr (by omega), beq_eq_false_iff_ne.mpr (by omega)⟩
    rw [if_neg n1, n2]
    refine ⟨?_, ⟨.str _, H, I.tok _, ⟨_, rfl⟩, q⟩⟩
    show ((List.replicate n.toNat z.cps).foldl (· ++ ·) #[]).size ≤ sizeLine
    rw [size_rep]
    have e : z.length = z.cps.size := rfl
    rw [e, Nat.mul_comm] at h4
    simpa using h4
end

/-! ## readings under names, with their steps -/
section
variable {X : Cx} {K : PySem.W.Frag} {D : Ends} {σ : L2.St} {H : Hp} {Q : VK}
def rInt1 : List V → Hp → VK → Prop := fun xs H Q => (∃ i, xs = [.int i] ∧ Q (.int i) H) ∨ ∃ k, xs = [.bl k] ∧ Q (.int (if k then 1 else 0)) H
theorem cl_int1 : CallR X (.type "int") rInt1 := call_int1
theorem w_int1 {i : Int} (q : Q (.int i) H) : rInt1 [.int i] H Q := .inl ⟨i, rfl, q⟩
theorem w_int1b {k : Bool} (q : Q (.int (if k then 1 else 0)) H) : rInt1 [.bl k] H Q := .inr ⟨k, rfl, q⟩
def rAbs : List V → Hp → VK → Prop := fun xs H Q => ∃ i, xs = [.int i] ∧ Q (.int (if i < 0 then -i else i)) H
theorem cl_abs : CallR X (.builtin "abs") rAbs := call_abs
theorem w_abs {i : Int} (q : Q (.int (if i < 0 then -i else i)) H) : rAbs [.int i] H Q := ⟨i, rfl, q⟩
def rLenQ (K : PySem.W.Frag) : List V → Hp → VK → Prop := fun xs H Q => ∃ p ys, xs = [.ref p] ∧ (SqL K H p ys ∨ SqT K H p ys) ∧ Q (.int ys.length) H
theorem cl_lenQ : CallR X (.builtin "len") (rLenQ X.K) := call_len_seq
theorem w_lenL {p : Addr} {xs : List V} (h : H p = some (.lst xs)) (q : Q (.int xs.length) H) : rLenQ K [.ref p] H Q := ⟨p, xs, rfl, .inl (SqL.of h), q⟩
theorem w_lenT {p : Addr} {xs : List V} (h : H p = some (.tup xs)) (q : Q (.int xs.length) H) : rLenQ K [.ref p] H Q := ⟨p, xs, rfl, .inr (SqT.of h), q⟩
def rLenS : List V → Hp → VK → Prop := fun xs H Q => ∃ z, xs = [.str z] ∧ z.length ≤ sizeLine ∧ Q (.int z.length) H
theorem cl_lenS : CallR X (.builtin "len") rLenS := call_len_str
theorem w_lenS {z : Str} (h : z.length ≤ sizeLine) (q : Q (.int z.length) H) : rLenS [.str z] H Q := ⟨z, rfl, h, q⟩
def rStrI : List V → Hp → VK → Prop := fun xs H Q => ∃ i, xs = [.int i] ∧ i.natAbs.log2 < 1920 ∧ Q (.str (toString i)) H
theorem cl_strI : CallR X (.type "str") rStrI := call_str_int
theorem w_strI {i : Int} (h : i.natAbs.log2 < 1920) (q : Q (.str (toString i)) H) : rStrI [.int i] H Q := ⟨i, rfl, h, q⟩
def rIntS : List V → Hp → VK → Prop := fun xs H Q => ∃ a n, xs = [.str a] ∧ PySem.intText? a = some n ∧ a.length ≤ 640 ∧ Q (.int n) H
theorem cl_intS : CallR X (.type "int") rIntS := call_int_str
theorem w_intS {a : Str} {n : Int} (h : PySem.intText? a = some n) (l : a.length ≤ 640) (q : Q (.int n) H) : rIntS [.str a] H Q := ⟨a, n, rfl, h, l, q⟩
def rAddS : R2 := fun x y H Q => ∃ i j, x = .str i ∧ y = .str j ∧ i.length + j.length ≤ sizeLine ∧ Q (.str (i ++ j)) H
theorem op_addS : OpR X (binaryOp .Add) rAddS := op_add_str
theorem w_addS {a b : Str} (h : a.length + b.length ≤ sizeLine) (q : Q (.str (a ++ b)) H) : rAddS (.str a) (.str b) H Q := ⟨a, b, rfl, rfl, h, q⟩
def rIsN : R2 := fun x y H Q => y = .non ∧ Q (.bl (decide (x = .non))) H
theorem op_isN' : OpR X (compareOp .Is) rIsN := op_isN
theorem w_isN {x : V} (q : Q (.bl (decide (x = .non))) H) : rIsN x .non H Q := ⟨rfl, q⟩
def rNotN : R2 := fun x y H Q => y = .non ∧ Q (.bl (!decide (x = .non))) H
theorem op_notN' : OpR X (compareOp .IsNot) rNotN := op_notN
theorem w_notN {x : V} (q : Q (.bl (!decide (x = .non))) H) : rNotN x .non H Q := ⟨rfl, q⟩
def rIsB : R2 := fun x y H Q => ∃ a b, x = .bl a ∧ y = .bl b ∧ Q (.bl (decide (a = b))) H
theorem op_isB : OpR X (compareOp .Is) rIsB := op_is_bl
theorem w_isB {a b : Bool} (q : Q (.bl (decide (a = b))) H) : rIsB (.bl a) (.bl b) H Q := ⟨a, b, rfl, rfl, q⟩
def rIsNotB : R2 := fun x y H Q => ∃ a b, x = .bl a ∧ y = .bl b ∧ Q (.bl (!decide (a = b))) H
theorem op_isNotB : OpR X (compareOp .IsNot) rIsNotB := op_isnot_bl
theorem w_isNotB {a b : Bool} (q : Q (.bl (!decide (a = b))) H) : rIsNotB (.bl a) (.bl b) H Q := ⟨a, b, rfl, rfl, q⟩
def rInS : R2 := fun x y H Q => ∃ i j, x = .str i ∧ y = .str j ∧ Q (.bl (!(Builtin.Str.occurrences j i 0 j.length 1).isEmpty)) H
theorem op_inS' : OpR X (compareOp .In) rInS := op_in_str
def rIn1 : R2 := fun x y H Q => ∃ (c : Nat) (z : Str), x = .str ⟨#[c]⟩ ∧ y = .str z ∧ Q (.bl (decide (c ∈ z.cps.toList))) H
theorem op_in1 : OpR X (compareOp .In) rIn1 := op_in_sign
theorem w_in1 {c : Nat} {z : Str} (q : Q (.bl (decide (c ∈ z.cps.toList))) H) : rIn1 (.str ⟨#[c]⟩) (.str z) H Q := ⟨c, z, rfl, rfl, q⟩
def rNotIn1 : R2 := fun x y H Q => ∃ (c : Nat) (z : Str), x = .str ⟨#[c]⟩ ∧ y = .str z ∧ Q (.bl (!decide (c ∈ z.cps.toList))) H
theorem op_notIn1 : OpR X (compareOp .NotIn) rNotIn1 := op_notIn_sign
theorem w_notIn1 {c : Nat} {z : Str} (q : Q (.bl (!decide (c ∈ z.cps.toList))) H) : rNotIn1 (.str ⟨#[c]⟩) (.str z) H Q := ⟨c, z, rfl, rfl, q⟩
def rListOf (K : PySem.W.Frag) : List V → Hp → VK → Prop := fun xs H Q => ∃ p ys, xs = [.ref p] ∧ (SqL K H p ys ∨ SqT K H p ys) ∧ ∀ l, H l = none → Q (.ref l) (upd H l (.lst ys))
theorem cl_listOf : CallR X (.type "list") (rListOf X.K) := call_list_of
theorem w_listOfK {p : Addr} {ys : List V} (h : SqL K H p ys) (q : ∀ l, H l = none → Q (.ref l) (upd H l (.lst ys))) : rListOf K [.ref p] H Q := ⟨p, ys, rfl, .inl h, q⟩
theorem w_max2 {i j : Int} (q : Q (.int (if j > i then j else i)) H) : (fun (xs : List V) (H : Hp) (Q : VK) => ∃ i j, xs = [.int i, .int j] ∧ Q (.int (if j > i then j else i)) H) [.int i, .int j] H Q := ⟨i, j, rfl, q⟩

theorem w_start {t : TS} {N : List Str} {vs : List V} (e : start N vs = σ) (q : t D σ H) : t D (start N vs) H := e ▸ q
theorem w_ixL {p : Addr} {xs : List V} {i : Int} {v : V} (h : H p = some (.lst xs)) (e : atI xs i = some v) (q : Q v H) : rIxL K (.ref p) (.int i) H Q := ⟨p, xs, i, v, rfl, rfl, SqL.of h, e, q⟩
theorem w_ixT {p : Addr} {xs : List V} {i : Int} {v : V} (h : H p = some (.tup xs)) (e : atI xs i = some v) (q : Q v H) : rIxT K (.ref p) (.int i) H Q := ⟨p, xs, i, v, rfl, rfl, SqT.of h, e, q⟩
theorem w_setL {R : Hp → Prop} {p : Addr} {xs : List V} {k : Int} {v : V} {j : Nat} (h : H p = some (.lst xs)) (e : ixN xs.length k = some j) (q : R (upd H p (.lst (xs.set j v)))) : rSetL (.ref p) (.int k) v H R := ⟨p, xs, k, j, rfl, rfl, h, e, q⟩
theorem w_set31 {R : Hp → Prop} {p : Addr} {a b c v : V} (h : H p = some (.lst [a, b, c])) (q : R (upd H p (.lst [a, v, c]))) : rSetL (.ref p) (.int 1) v H R := w_setL h (j := 1) rfl q
theorem w_set32 {R : Hp → Prop} {p : Addr} {a b c v : V} (h : H p = some (.lst [a, b, c])) (q : R (upd H p (.lst [a, b, v]))) : rSetL (.ref p) (.int 2) v H R := w_setL h (j := 2) rfl q
theorem w_gSub {to ti : TE} {t : TSet} {v : V} {R : L2.St → Hp → Prop} (q : to σ H fun o H1 => ti σ H1 fun i H2 => t o i v H2 fun H3 => R σ H3) : gSub to ti t v σ H R := q
/-- a branch by a test's answer -/
theorem w_ite {c A B : Prop} [Decidable c] (h1 : c → A) (h2 : ¬ c → B) : if decide c = true then A else B := by
  by_cases h : c
  · rw [if_pos (decide_eq_true h)]
    exact h1 h
  · rw [if_neg (by rw [decide_eq_false h]; exact Bool.false_ne_true)]
    exact h2 h
theorem w_iteT {A B : Prop} {b : Bool} (h : b = true) (q : A) : if b = true then A else B := by rw [if_pos h]; exact q
theorem w_iteF {A B : Prop} {b : Bool} (h : b = false) (q : B) : if b = true then A else B := by rw [if_neg (by rw [h]; exact Bool.false_ne_true)]; exact q
theorem upd_upd' {a : Addr} {o u : HO} : upd (upd H a o) a u = upd H a u := upd_upd
def CMulA (i j : Int) : Prop := CMul i j ∨ CMulW i j
theorem op_mulA : OpR X (binaryOp .Mult) (rI CMulA fun i j => .int (i * j)) := opI fun _ _ _ _ _ _ _ hc q => mul_int q (hc.elim (fun h => h.ok) fun h => h.ok)
theorem dpAll_ints {K : PySem.W.Frag} {H : Hp} : ∀ ns : List Int, DpAll K H (ns.map V.int) (ns.map PyData.int)
  | [] => .nil
  | n :: ns => .cons (.int n) (dpAll_ints ns)
theorem canLay_ints : ∀ ns : List Int, PyData.canLayAll0 (ns.map PyData.int) = true
  | [] => rfl
  | n :: ns => by
    show (PyData.canLay0 (.int n) && PyData.canLayAll0 (ns.map PyData.int)) = true
    rw [canLay_ints ns]
    rfl
theorem depth_ints : ∀ ns : List Int, PyData.depthAll (ns.map PyData.int) ≤ 1
  | [] => by decide
  | n :: ns => by
    have h := depth_ints ns
    show max (PyData.depth (.int n)) (PyData.depthAll (ns.map PyData.int)) ≤ 1
    exact Nat.max_le.mpr ⟨Nat.zero_le _, h⟩
theorem shaped_ints (ns : List Int) : SeqAt.shaped (.list (ns.map PyData.int)) = true := by
  unfold SeqAt.shaped
  rw [Bool.and_eq_true]
  refine ⟨canLay_ints ns, decide_eq_true ?_⟩
  have h := depth_ints ns
  show PyData.depthAll (ns.map PyData.int) + 1 ≤ 64
  omega
theorem w_neNil {c q : Addr} {ns : List Int} (h : H c = some (.lst (ns.map V.int))) (h2 : H q = some (.lst [])) (k : Q (.bl (!decide (ns = []))) H) : rNeD K (.ref c) (.ref q) H Q := by
  refine ⟨.list (ns.map PyData.int), .list [], .lst (SqL.of h) (dpAll_ints ns), .lst (SqL.of h2) .nil, shaped_ints ns, by decide, ?_⟩
  have e : PyData.eqv (.list (ns.map PyData.int)) (.list []) = decide (ns = []) := by
    cases ns with
    | nil => rfl
    | cons n r => rfl
  rw [e]
  exact k
theorem w_itN {c A B : Prop} [Decidable c] (h1 : ¬ c → A) (h2 : c → B) : if (!decide c) = true then A else B := by
  by_cases h : c
  · rw [decide_eq_true h]
    exact iteF (h2 h)
  · rw [decide_eq_false h]
    exact iteT (h1 h)
theorem atI_map {ns : List Int} {i : Int} (h0 : 0 ≤ i) (h1 : i < ns.length) : atI (ns.map V.int) i = some (.int (ns.getD i.toNat 0)) := by
  have h2 : i.toNat < ns.length := by omega
  unfold atI ixN
  rw [List.length_map, if_pos h0, if_pos h1]
  show (ns.map V.int)[i.toNat]? = _
  rw [List.getElem?_map, List.getElem?_eq_getElem h2]
  show some (V.int ns[i.toNat]) = some (V.int (ns.getD i.toNat 0))
  rw [List.getD_eq_getElem?_getD, List.getElem?_eq_getElem h2]
  rfl
end

/-! ## comprehensions whose element is a value of the item -/
/-- a walk over xs that leaves the heap as it is, wherever what H1 held stands -/
structure PureIt (J : It) (H1 : Hp) (xs : List V) : Prop where
  go : ∀ H', Same H1 H' → ∀ i, i < xs.length → J.go i H'
  stop : ∀ H', Same H1 H' → ∀ i, xs.length ≤ i → J.stop i H'
  yld : ∀ H', Same H1 H' → ∀ i x H'', i < xs.length → J.yld i H' x H'' → H'' = H' ∧ xs[i]? = some x
section
variable {K : PySem.W.Frag} {H1 : Hp} {σ : L2.St} {Q : VK}
theorem pureIt_list {a : Addr} {xs : List V} (h : SqL K H1 a xs) : PureIt (Itl K a) H1 xs where
  go := fun H' e i hi => ⟨xs, xs[i], e.seq h, List.getElem?_eq_getElem hi⟩
  stop := fun H' e i hi => ⟨xs, e.seq h, hi⟩
  yld := fun H' e i x H'' _ y => ⟨y.1, y.2 xs (e.seq h)⟩
theorem same_seqT {H H' : Hp} {a : Addr} {xs : List V} (e : Same H H') (h : SqT K H a xs) : SqT K H' a xs := by
  rcases h with (h | ⟨o, h⟩) | h
  · exact .inl (.inl (e _ _ h))
  · exact .inl (.inr ⟨o, e _ _ h⟩)
  · exact .inr h
theorem pureIt_tup {a : Addr} {xs : List V} (h : SqT K H1 a xs) : PureIt (Itt K a) H1 xs where
  go := fun H' e i hi => ⟨xs, xs[i], same_seqT e h, List.getElem?_eq_getElem hi⟩
  stop := fun H' e i hi => ⟨xs, same_seqT e h, hi⟩
  yld := fun H' e i x H'' _ y => ⟨y.1, y.2 xs (same_seqT e h)⟩
/-- the signs of a text, as texts -/
def signsV (z : Str) : List V := z.cps.toList.map fun c => .str ⟨#[c]⟩
theorem pureIt_str {z : Str} : PureIt (Its z) H1 (signsV z) where
  go := fun H' _ i hi => by
    have : (signsV z).length = z.cps.size := by simp [signsV]
    show i < z.cps.size
    omega
  stop := fun H' _ i hi => by
    have : (signsV z).length = z.cps.size := by simp [signsV]
    show z.cps.size ≤ i
    omega
  yld := fun H' _ i x H'' _ y => by
    obtain ⟨e, c, h1, rfl⟩ := y
    refine ⟨e, ?_⟩
    unfold signsV
    rw [List.getElem?_map, Array.getElem?_toList, h1]
    rfl
/-- the ints of a range -/
def rangeV (lo : Int) (n : Nat) : List V := (List.range n).map fun (i : Nat) => .int (lo + i)
theorem pureIt_rng {lo : Int} {n : Nat} : PureIt (Itr lo n) H1 (rangeV lo n) where
  go := fun H' _ i hi => by
    have : (rangeV lo n).length = n := by simp [rangeV]
    show i < n
    omega
  stop := fun H' _ i hi => by
    have : (rangeV lo n).length = n := by simp [rangeV]
    show n ≤ i
    omega
  yld := fun H' _ i x H'' hi y => by
    have e : (rangeV lo n).length = n := by simp [rangeV]
    refine ⟨y.1, ?_⟩
    rw [y.2]
    unfold rangeV
    rw [List.getElem?_map, List.getElem?_range (by omega)]
    rfl
theorem same_new {H' : Hp} {D : Addr} {o : HO} (h : H1 D = none) (e : Same H1 H') : Same H1 (upd H' D o) := fun b u hb => by
  rw [upd_ne (ne_of_none hb h)]
  exact e b u hb
/-- [e for x in xs if t]: p and f say what the test and the element are worth; anything may be made on the way -/
theorem lcI_by {J : It} {xs : List V} {k : Nat} {tt : TT} {te : TE} {vs : List Nat} (p : V → Bool) (f : V → V) (hJ : PureIt J H1 xs) (hl : xs.length ≤ sizeLine)
    (ht : ∀ x ∈ xs, ∀ H', Same H1 H' → ∀ R : Bool → Hp → Prop, (∀ H'', Same H' H'' → R (p x) H'') → tt ((wipe σ vs).set k (some x)) H' R)
    (hel : ∀ x ∈ xs, p x = true → ∀ H', Same H1 H' → ∀ R : VK, (∀ H'', Same H' H'' → R (f x) H'') → te ((wipe σ vs).set k (some x)) H' R)
    (q : ∀ D H', H1 D = none → Same H1 H' → H' D = some (.lst ((xs.filter p).map f)) → Q (.ref D) H') (hw : ∀ v, wipe ((wipe σ vs).set k (some v)) vs = wipe σ vs := by intro _; rfl) :
    ∀ D, H1 D = none → ∃ W : Nat → Nat → Hp → Prop, (∃ m, W 0 m (upd H1 D (.lst []))) ∧ ∀ i m H, W i m H →
      (J.stop i H ∧ Q (.ref D) H) ∨ (J.go i H ∧ ∃ Nx : Hp → Prop, (∀ H', Nx H' → ∃ m', m' < m ∧ W (i + 1) m' H') ∧ ∀ x H', J.yld i H x H' → gName k x (wipe σ vs) H' fun σ2 H2 => wipe σ2 vs = wipe σ vs ∧ tt σ2 H2 fun b H3 =>
        if b = true then te σ2 H3 fun y H4 => ∃ acc, H4 D = some (.lst acc) ∧ acc.length < sizeLine ∧ Nx (upd H4 D (.lst (acc ++ [y]))) else Nx H3) := by
  intro D hD
  refine ⟨fun i m H => m = xs.length - i ∧ i ≤ xs.length ∧ Same H1 H ∧ H D = some (.lst (((xs.take i).filter p).map f)), ⟨xs.length, by simp, Nat.zero_le _, same_new hD (Same.refl H1), upd_same⟩, ?_⟩
  rintro i m H ⟨rfl, hi, e, hd⟩
  by_cases hlt : i < xs.length
  · refine .inr ⟨hJ.go H e i hlt, fun H' => Same H1 H' ∧ H' D = some (.lst (((xs.take (i + 1)).filter p).map f)), fun H' ⟨e', d'⟩ => ⟨xs.length - (i + 1), by omega, rfl, hlt, e', d'⟩, fun x H' y => ?_⟩
    obtain ⟨rfl, hx⟩ := hJ.yld H e i x H' hlt y
    have hm : x ∈ xs := List.mem_of_getElem? hx
    have htk : xs.take (i + 1) = xs.take i ++ [x] := by rw [List.take_add_one, hx]; rfl
    refine ⟨hw x, ht x hm H' e _ fun H2 e2 => ?_⟩
    cases hp : p x with
    | true =>
      rw [if_pos rfl]
      refine hel x hm hp H2 (e.trans e2) _ fun H3 e3 => ⟨((xs.take i).filter p).map f, e3 _ _ (e2 _ _ hd), ?_, ?_, ?_⟩
      · have h1 : ((xs.take i).filter p).length ≤ (xs.take i).length := List.length_filter_le ..
        rw [List.length_map]
        rw [List.length_take] at h1
        omega
      · exact same_new hD ((e.trans e2).trans e3)
      · rw [upd_same, htk, List.filter_append, List.map_append, List.filter_cons, hp]
        rfl
    | false =>
      rw [if_neg Bool.false_ne_true]
      refine ⟨e.trans e2, ?_⟩
      rw [e2 _ _ hd, htk, List.filter_append, List.filter_cons, hp]
      simp
  · have hi' : i = xs.length := by omega
    subst hi'
    refine .inl ⟨hJ.stop H e _ (Nat.le_refl _), q D H hD e ?_⟩
    rw [hd, List.take_length]
/-- without a test -/
theorem lcI_map {J : It} {xs : List V} {k : Nat} {te : TE} {vs : List Nat} (f : V → V) (hJ : PureIt J H1 xs) (hl : xs.length ≤ sizeLine)
    (hel : ∀ x ∈ xs, ∀ H', Same H1 H' → ∀ R : VK, (∀ H'', Same H' H'' → R (f x) H'') → te ((wipe σ vs).set k (some x)) H' R)
    (q : ∀ D H', H1 D = none → Same H1 H' → H' D = some (.lst (xs.map f)) → Q (.ref D) H') (hw : ∀ v, wipe ((wipe σ vs).set k (some v)) vs = wipe σ vs := by intro _; rfl) :
    ∀ D, H1 D = none → ∃ W : Nat → Nat → Hp → Prop, (∃ m, W 0 m (upd H1 D (.lst []))) ∧ ∀ i m H, W i m H →
      (J.stop i H ∧ Q (.ref D) H) ∨ (J.go i H ∧ ∃ Nx : Hp → Prop, (∀ H', Nx H' → ∃ m', m' < m ∧ W (i + 1) m' H') ∧ ∀ x H', J.yld i H x H' → gName k x (wipe σ vs) H' fun σ2 H2 => wipe σ2 vs = wipe σ vs ∧ tYes σ2 H2 fun b H3 =>
        if b = true then te σ2 H3 fun y H4 => ∃ acc, H4 D = some (.lst acc) ∧ acc.length < sizeLine ∧ Nx (upd H4 D (.lst (acc ++ [y]))) else Nx H3) :=
  lcI_by (fun _ => true) f hJ hl (fun _ _ H' _ R hR => hR H' (Same.refl H')) (fun x hm _ => hel x hm) (fun D H' h1 h2 h3 => q D H' h1 h2 (by rw [h3, List.filter_eq_self.mpr fun _ _ => rfl])) hw
theorem w_lc {wi : TI} {g : TG} {tt : TT} {te : TE} {vs : List Nat} {H : Hp} (q : wi σ H fun J H1 => ∀ D, H1 D = none → ∃ W : Nat → Nat → Hp → Prop, (∃ m, W 0 m (upd H1 D (.lst []))) ∧ ∀ i m H, W i m H →
      (J.stop i H ∧ Q (.ref D) H) ∨ (J.go i H ∧ ∃ Nx : Hp → Prop, (∀ H', Nx H' → ∃ m', m' < m ∧ W (i + 1) m' H') ∧ ∀ x H', J.yld i H x H' → g x (wipe σ vs) H' fun σ2 H2 => wipe σ2 vs = wipe σ vs ∧ tt σ2 H2 fun b H3 =>
        if b = true then te σ2 H3 fun y H4 => ∃ acc, H4 D = some (.lst acc) ∧ acc.length < sizeLine ∧ Nx (upd H4 D (.lst (acc ++ [y]))) else Nx H3)) : tLc wi g tt te vs σ H Q := q
theorem w_iStr {te : TE} {R : It → Hp → Prop} {H : Hp} (q : te σ H fun v H1 => ∃ x, v = .str x ∧ R (Its x) H1) : iStr te σ H R := q
theorem w_str {a : Str} {P : Str → Prop} (q : P a) : ∃ i, V.str a = .str i ∧ P i := ⟨a, rfl, q⟩
theorem w_iRng1 {ta : TA} {R : It → Hp → Prop} {H : Hp} (q : ta σ H fun vs H1 => ∃ j : Int, vs = [.int j] ∧ -(2 ^ 62) ≤ j ∧ j < 2 ^ 62 ∧ R (Itr 0 j.toNat) H1) : iRng1 ta σ H R := q
theorem w_rng1 {j : Int} {P : Int → Prop} (h : -(2 ^ 62) ≤ j ∧ j < 2 ^ 62) (q : P j) : ∃ i : Int, [V.int j] = [.int i] ∧ -(2 ^ 62) ≤ i ∧ i < 2 ^ 62 ∧ P i := ⟨j, rfl, h.1, h.2, q⟩
theorem w_iRng2 {ta : TA} {R : It → Hp → Prop} {H : Hp} (q : ta σ H fun vs H1 => ∃ i j : Int, vs = [.int i, .int j] ∧ (-(2 ^ 62) ≤ i ∧ i < 2 ^ 62 ∧ -(2 ^ 62) ≤ j ∧ j < 2 ^ 62) ∧ R (Itr i (j - i).toNat) H1) : iRng2 ta σ H R := q
theorem w_rng2 {a b : Int} {P : Int → Int → Prop} (h : -(2 ^ 62) ≤ a ∧ a < 2 ^ 62 ∧ -(2 ^ 62) ≤ b ∧ b < 2 ^ 62) (q : P a b) : ∃ i j : Int, [V.int a, V.int b] = [.int i, .int j] ∧ (-(2 ^ 62) ≤ i ∧ i < 2 ^ 62 ∧ -(2 ^ 62) ≤ j ∧ j < 2 ^ 62) ∧ P i j := ⟨a, b, rfl, h, q⟩
theorem w_iList {tl : TE} {R : It → Hp → Prop} {H : Hp} (q : tl σ H fun x H1 => ∃ a, x = .ref a ∧ (∃ xs, SqL K H1 a xs) ∧ R (Itl K a) H1) : iList K tl σ H R := q
theorem w_lstAt {H : Hp} {p : Addr} {xs : List V} {P : Addr → Prop} (h : H p = some (.lst xs)) (q : P p) : ∃ a, V.ref p = .ref a ∧ (∃ xs, SqL K H a xs) ∧ P a := ⟨p, rfl, ⟨xs, SqL.of h⟩, q⟩
theorem w_iTup {tl : TE} {R : It → Hp → Prop} {H : Hp} (q : tl σ H fun x H1 => ∃ a, x = .ref a ∧ (∃ xs, SqT K H1 a xs) ∧ R (Itt K a) H1) : iTup K tl σ H R := q
theorem w_tupAt {H : Hp} {p : Addr} {xs : List V} {P : Addr → Prop} (h : H p = some (.tup xs)) (q : P p) : ∃ a, V.ref p = .ref a ∧ (∃ xs, SqT K H a xs) ∧ P a := ⟨p, rfl, ⟨xs, SqT.of h⟩, q⟩
theorem w_for {wi : TI} {g : TG} {tb : TS} {D : Ends} {H : Hp} (q : wi σ H fun J H1 => ∃ W : Nat → Nat → L2.St → Hp → Prop, (∃ m, W 0 m σ H1) ∧ ∀ i m σ H, W i m σ H →
  (J.stop i H ∧ D.nx σ H) ∨ (J.go i H ∧ ∃ N : L2.St → Hp → Prop, (∀ σ' H', N σ' H' → ∃ m', m' < m ∧ W (i + 1) m' σ' H') ∧ ∀ x H', J.yld i H x H' → g x σ H' fun σ2 H2 => tb { D with nx := N, ct := N, bk := D.nx } σ2 H2)) : tFor wi g tb D σ H := q
/-- all([..]), any([..]) of a new list of bools -/
theorem w_all {p : Addr} {bs : List Bool} {H : Hp} (h : H p = some (.lst (bs.map V.bl))) (q : Q (.bl (bs.all id)) H) : rAll K [.ref p] H Q := ⟨p, bs, rfl, SqL.of h, q⟩
theorem w_any {p : Addr} {bs : List Bool} {H : Hp} (h : H p = some (.lst (bs.map V.bl))) (q : Q (.bl (bs.any id)) H) : rAny K [.ref p] H Q := ⟨p, bs, rfl, SqL.of h, q⟩
theorem w_slS {z : Str} {lo hi : Option Int} {H : Hp} (h : z.length ≤ sizeLine) (q : Q (.str (cutS z lo hi)) H) : rSlS (.str z) lo hi H Q := ⟨z, rfl, h, q⟩
theorem w_slL {a : Addr} {xs : List V} {lo hi : Option Int} {H : Hp} (h : SqL K H a xs) (q : ∀ p, H p = none → Q (.ref p) (upd H p (.lst (cutV xs lo hi)))) : rSlL K (.ref a) lo hi H Q := ⟨a, xs, rfl, h, q⟩
end

/-! ## values of built-in kinds -/
inductive BV (H : Hp) : V → String → Prop
  | non : BV H .non "NoneType"
  | bl (b : Bool) : BV H (.bl b) "bool"
  | int (i : Int) : BV H (.int i) "int"
  | str (z : Str) : BV H (.str z) "str"
  | lst {a : Addr} {xs : List V} (h : H a = some (.lst xs)) : BV H (.ref a) "list"
  | tup {a : Addr} {xs : List V} (h : H a = some (.tup xs)) : BV H (.ref a) "tuple"
  | dK {a : Addr} {kvs : List (Key × V)} (h : H a = some (.dK kvs)) : BV H (.ref a) "dict"
theorem BV.ty {K : PySem.W.Frag} {H : Hp} {x : V} {n : String} (b : BV H x n) : TyX K H x (.type n) := by
  cases b with
  | non => exact .base .non
  | bl b => exact .base (.bl b)
  | int i => exact .base (.int i)
  | str z => exact .base (.str z)
  | lst h => exact .base (.lst h)
  | tup h => exact .base (.tup h)
  | dK h => exact .base (.dK h)
theorem BV.same {H H' : Hp} {x : V} {n : String} (e : Same H H') (b : BV H x n) : BV H' x n := by
  cases b with
  | non => exact .non
  | bl b => exact .bl b
  | int i => exact .int i
  | str z => exact .str z
  | lst h => exact .lst (e _ _ h)
  | tup h => exact .tup (e _ _ h)
  | dK h => exact .dK (e _ _ h)
section
variable {K : PySem.W.Frag} {H : Hp} {Q : VK} {x : V} {n : String}
theorem w_isi {c : String} {k : Bool} (b : BV H x n) (e : PySem.W.kitOne K (.type n) (.type c) = some k) (q : Q (.bl k) H) : rIsi K [x, .ty c] H Q := ⟨x, .ty c, .type n, .type c, k, rfl, .ty c, b.ty, e, q⟩
theorem w_isiInt (b : BV H x n) (q : Q (.bl (n == "int" || n == "bool")) H) : rIsi K [x, .ty "int"] H Q := by
  refine w_isi b (k := (n == "int" || n == "bool")) ?_ q
  cases b <;> exact kit_ty (by decide +kernel)
theorem w_isiBool (b : BV H x n) (q : Q (.bl (n == "bool")) H) : rIsi K [x, .ty "bool"] H Q := by
  refine w_isi b (k := (n == "bool")) ?_ q
  cases b <;> exact kit_ty (by decide +kernel)
theorem w_isiStr (b : BV H x n) (q : Q (.bl (n == "str")) H) : rIsi K [x, .ty "str"] H Q := by
  refine w_isi b (k := (n == "str")) ?_ q
  cases b <;> exact kit_ty (by decide +kernel)
end
def isIntV : V → Bool
  | .int _ => true
  | _ => false
def betV (lo hi : Int) : V → Bool
  | .int i => decide (lo ≤ i) && decide (i ≤ hi)
  | _ => false

/-! ## comprehensions over a text's signs, over a range -/
section
variable {H1 : Hp} {σ : L2.St} {Q : VK}
theorem lcI_strBy {z : Str} {k : Nat} {tt : TT} {te : TE} {vs : List Nat} (p : Nat → Bool) (f : Nat → V) (hl : z.length ≤ sizeLine)
    (ht : ∀ c ∈ z.cps.toList, ∀ H', Same H1 H' → ∀ R : Bool → Hp → Prop, (∀ H'', Same H' H'' → R (p c) H'') → tt ((wipe σ vs).set k (some (.str ⟨#[c]⟩))) H' R)
    (hel : ∀ c ∈ z.cps.toList, p c = true → ∀ H', Same H1 H' → ∀ R : VK, (∀ H'', Same H' H'' → R (f c) H'') → te ((wipe σ vs).set k (some (.str ⟨#[c]⟩))) H' R)
    (q : ∀ D H', H1 D = none → Same H1 H' → H' D = some (.lst ((z.cps.toList.filter p).map f)) → Q (.ref D) H') (hw : ∀ v, wipe ((wipe σ vs).set k (some v)) vs = wipe σ vs := by intro _; rfl) :
    ∀ D, H1 D = none → ∃ W : Nat → Nat → Hp → Prop, (∃ m, W 0 m (upd H1 D (.lst []))) ∧ ∀ i m H, W i m H →
      ((Its z).stop i H ∧ Q (.ref D) H) ∨ ((Its z).go i H ∧ ∃ Nx : Hp → Prop, (∀ H', Nx H' → ∃ m', m' < m ∧ W (i + 1) m' H') ∧ ∀ x H', (Its z).yld i H x H' → gName k x (wipe σ vs) H' fun σ2 H2 => wipe σ2 vs = wipe σ vs ∧ tt σ2 H2 fun b H3 =>
        if b = true then te σ2 H3 fun y H4 => ∃ acc, H4 D = some (.lst acc) ∧ acc.length < sizeLine ∧ Nx (upd H4 D (.lst (acc ++ [y]))) else Nx H3) := by
  let pV : V → Bool := fun x => match x with | .str s => p (s.cps.toList.headD 0) | _ => true
  let fV : V → V := fun x => match x with | .str s => f (s.cps.toList.headD 0) | _ => .non
  have hm : ∀ x ∈ signsV z, ∃ c ∈ z.cps.toList, x = .str ⟨#[c]⟩ := fun x hx => by
    obtain ⟨c, h1, h2⟩ := List.mem_map.mp hx
    exact ⟨c, h1, h2.symm⟩
  have e : ∀ l : List Nat, ((l.map fun c => V.str ⟨#[c]⟩).filter pV).map fV = (l.filter p).map f := fun l => by
    induction l with
    | nil => rfl
    | cons c l ih =>
      rw [List.map_cons, List.filter_cons, List.filter_cons]
      have h1 : pV (.str ⟨#[c]⟩) = p c := rfl
      rw [h1]
      cases p c with
      | true => rw [if_pos rfl, if_pos rfl, List.map_cons, List.map_cons, ih]; rfl
      | false => rw [if_neg Bool.false_ne_true, if_neg Bool.false_ne_true, ih]
  refine lcI_by pV fV pureIt_str (by rw [show (signsV z).length = z.length by simp [signsV, PySem.Str.length]]; exact hl) (fun x hx H' e1 R hR => ?_) (fun x hx hp H' e1 R hR => ?_) (fun D H' h1 h2 h3 => q D H' h1 h2 (by rw [h3]; exact congrArg (fun l => some (HO.lst l)) (e _))) hw
  · obtain ⟨c, hc, rfl⟩ := hm x hx
    exact ht c hc H' e1 R hR
  · obtain ⟨c, hc, rfl⟩ := hm x hx
    exact hel c hc hp H' e1 R hR
theorem lcI_str {z : Str} {k : Nat} {te : TE} {vs : List Nat} (f : Nat → V) (hl : z.length ≤ sizeLine)
    (hel : ∀ c ∈ z.cps.toList, ∀ H', Same H1 H' → ∀ R : VK, (∀ H'', Same H' H'' → R (f c) H'') → te ((wipe σ vs).set k (some (.str ⟨#[c]⟩))) H' R)
    (q : ∀ D H', H1 D = none → Same H1 H' → H' D = some (.lst (z.cps.toList.map f)) → Q (.ref D) H') (hw : ∀ v, wipe ((wipe σ vs).set k (some v)) vs = wipe σ vs := by intro _; rfl) :
    ∀ D, H1 D = none → ∃ W : Nat → Nat → Hp → Prop, (∃ m, W 0 m (upd H1 D (.lst []))) ∧ ∀ i m H, W i m H →
      ((Its z).stop i H ∧ Q (.ref D) H) ∨ ((Its z).go i H ∧ ∃ Nx : Hp → Prop, (∀ H', Nx H' → ∃ m', m' < m ∧ W (i + 1) m' H') ∧ ∀ x H', (Its z).yld i H x H' → gName k x (wipe σ vs) H' fun σ2 H2 => wipe σ2 vs = wipe σ vs ∧ tYes σ2 H2 fun b H3 =>
        if b = true then te σ2 H3 fun y H4 => ∃ acc, H4 D = some (.lst acc) ∧ acc.length < sizeLine ∧ Nx (upd H4 D (.lst (acc ++ [y]))) else Nx H3) :=
  lcI_strBy (fun _ => true) f hl (fun _ _ H' _ R hR => hR H' (Same.refl H')) (fun c hc _ => hel c hc) (fun D H' h1 h2 h3 => q D H' h1 h2 (by rw [h3, List.filter_eq_self.mpr fun _ _ => rfl])) hw
theorem lcI_rng {lo : Int} {n : Nat} {k : Nat} {te : TE} {vs : List Nat} (f : Nat → V) (hl : n ≤ sizeLine)
    (hel : ∀ i, i < n → ∀ H', Same H1 H' → ∀ R : VK, (∀ H'', Same H' H'' → R (f i) H'') → te ((wipe σ vs).set k (some (.int (lo + i)))) H' R)
    (q : ∀ D H', H1 D = none → Same H1 H' → H' D = some (.lst ((List.range n).map f)) → Q (.ref D) H') (hw : ∀ v, wipe ((wipe σ vs).set k (some v)) vs = wipe σ vs := by intro _; rfl) :
    ∀ D, H1 D = none → ∃ W : Nat → Nat → Hp → Prop, (∃ m, W 0 m (upd H1 D (.lst []))) ∧ ∀ i m H, W i m H →
      ((Itr lo n).stop i H ∧ Q (.ref D) H) ∨ ((Itr lo n).go i H ∧ ∃ Nx : Hp → Prop, (∀ H', Nx H' → ∃ m', m' < m ∧ W (i + 1) m' H') ∧ ∀ x H', (Itr lo n).yld i H x H' → gName k x (wipe σ vs) H' fun σ2 H2 => wipe σ2 vs = wipe σ vs ∧ tYes σ2 H2 fun b H3 =>
        if b = true then te σ2 H3 fun y H4 => ∃ acc, H4 D = some (.lst acc) ∧ acc.length < sizeLine ∧ Nx (upd H4 D (.lst (acc ++ [y]))) else Nx H3) := by
  let fV : V → V := fun x => match x with | .int i => f (i - lo).toNat | _ => .non
  refine lcI_map fV pureIt_rng (by simpa [rangeV] using hl) (fun x hx H' e1 R hR => ?_) (fun D H' h1 h2 h3 => q D H' h1 h2 ?_) hw
  · obtain ⟨i, hi, rfl⟩ := List.mem_map.mp hx
    have hi' : i < n := List.mem_range.mp hi
    have e : fV (.int (lo + (i : Int))) = f i := by
      show f (lo + (i : Int) - lo).toNat = f i
      congr 1
      omega
    rw [e] at hR
    exact hel i hi' H' e1 R hR
  · rw [h3]
    unfold rangeV
    rw [List.map_map]
    congr 2
    refine List.map_congr_left fun i _ => ?_
    show f (lo + (i : Int) - lo).toNat = f i
    congr 1
    omega
end
/-! ## .. the whole comprehension: ts is its source's reading, hs what it gives -/
section
variable {K : PySem.W.Frag} {σ : L2.St} {Q : VK} {k : Nat} {tt : TT} {te ts : TE} {vs : List Nat} {H : Hp}
theorem lc_strBy (H1 : Hp) (z : Str) (p : Nat → Bool) (f : Nat → V) (hs : ∀ R : VK, R (.str z) H1 → ts σ H R) (hl : z.length ≤ sizeLine)
    (ht : ∀ c ∈ z.cps.toList, ∀ H', Same H1 H' → ∀ R : Bool → Hp → Prop, (∀ H'', Same H' H'' → R (p c) H'') → tt ((wipe σ vs).set k (some (.str ⟨#[c]⟩))) H' R)
    (hel : ∀ c ∈ z.cps.toList, p c = true → ∀ H', Same H1 H' → ∀ R : VK, (∀ H'', Same H' H'' → R (f c) H'') → te ((wipe σ vs).set k (some (.str ⟨#[c]⟩))) H' R)
    (q : ∀ D H', H1 D = none → Same H1 H' → H' D = some (.lst ((z.cps.toList.filter p).map f)) → Q (.ref D) H') (hw : ∀ v, wipe ((wipe σ vs).set k (some v)) vs = wipe σ vs := by intro _; rfl) :
    tLc (iStr ts) (gName k) tt te vs σ H Q := hs _ ⟨z, rfl, lcI_strBy p f hl ht hel q hw⟩
theorem lc_str (H1 : Hp) (z : Str) (f : Nat → V) (hs : ∀ R : VK, R (.str z) H1 → ts σ H R) (hl : z.length ≤ sizeLine)
    (hel : ∀ c ∈ z.cps.toList, ∀ H', Same H1 H' → ∀ R : VK, (∀ H'', Same H' H'' → R (f c) H'') → te ((wipe σ vs).set k (some (.str ⟨#[c]⟩))) H' R)
    (q : ∀ D H', H1 D = none → Same H1 H' → H' D = some (.lst (z.cps.toList.map f)) → Q (.ref D) H') (hw : ∀ v, wipe ((wipe σ vs).set k (some v)) vs = wipe σ vs := by intro _; rfl) :
    tLc (iStr ts) (gName k) tYes te vs σ H Q := hs _ ⟨z, rfl, lcI_str f hl hel q hw⟩
theorem lc_rng1 {ta : TA} (H1 : Hp) (n : Nat) (f : Nat → V) (hs : ∀ R : List V → Hp → Prop, R [.int (n : Int)] H1 → ta σ H R) (hl : n ≤ sizeLine)
    (hel : ∀ i, i < n → ∀ H', Same H1 H' → ∀ R : VK, (∀ H'', Same H' H'' → R (f i) H'') → te ((wipe σ vs).set k (some (.int (0 + (i : Int))))) H' R)
    (q : ∀ D H', H1 D = none → Same H1 H' → H' D = some (.lst ((List.range n).map f)) → Q (.ref D) H') (hw : ∀ v, wipe ((wipe σ vs).set k (some v)) vs = wipe σ vs := by intro _; rfl) :
    tLc (iRng1 ta) (gName k) tYes te vs σ H Q := by
  have h1 : (n : Int) ≤ 16777216 := by
    have := sizeLine_eq
    omega
  exact hs _ ⟨n, rfl, by omega, by omega, lcI_rng f hl hel q hw⟩
theorem lc_list (H1 : Hp) (a : Addr) (xs : List V) (f : V → V) (hs : ∀ R : VK, R (.ref a) H1 → ts σ H R) (ha : SqL K H1 a xs) (hl : xs.length ≤ sizeLine)
    (hel : ∀ x ∈ xs, ∀ H', Same H1 H' → ∀ R : VK, (∀ H'', Same H' H'' → R (f x) H'') → te ((wipe σ vs).set k (some x)) H' R)
    (q : ∀ D H', H1 D = none → Same H1 H' → H' D = some (.lst (xs.map f)) → Q (.ref D) H') (hw : ∀ v, wipe ((wipe σ vs).set k (some v)) vs = wipe σ vs := by intro _; rfl) :
    tLc (iList K ts) (gName k) tYes te vs σ H Q := hs _ ⟨a, rfl, ⟨xs, ha⟩, lcI_map f (pureIt_list ha) hl hel q hw⟩
theorem lc_listBy (H1 : Hp) (a : Addr) (xs : List V) (p : V → Bool) (f : V → V) (hs : ∀ R : VK, R (.ref a) H1 → ts σ H R) (ha : SqL K H1 a xs) (hl : xs.length ≤ sizeLine)
    (ht : ∀ x ∈ xs, ∀ H', Same H1 H' → ∀ R : Bool → Hp → Prop, (∀ H'', Same H' H'' → R (p x) H'') → tt ((wipe σ vs).set k (some x)) H' R)
    (hel : ∀ x ∈ xs, p x = true → ∀ H', Same H1 H' → ∀ R : VK, (∀ H'', Same H' H'' → R (f x) H'') → te ((wipe σ vs).set k (some x)) H' R)
    (q : ∀ D H', H1 D = none → Same H1 H' → H' D = some (.lst ((xs.filter p).map f)) → Q (.ref D) H') (hw : ∀ v, wipe ((wipe σ vs).set k (some v)) vs = wipe σ vs := by intro _; rfl) :
    tLc (iList K ts) (gName k) tt te vs σ H Q := hs _ ⟨a, rfl, ⟨xs, ha⟩, lcI_by p f (pureIt_list ha) hl ht hel q hw⟩
theorem lc_tup (H1 : Hp) (a : Addr) (xs : List V) (f : V → V) (hs : ∀ R : VK, R (.ref a) H1 → ts σ H R) (ha : SqT K H1 a xs) (hl : xs.length ≤ sizeLine)
    (hel : ∀ x ∈ xs, ∀ H', Same H1 H' → ∀ R : VK, (∀ H'', Same H' H'' → R (f x) H'') → te ((wipe σ vs).set k (some x)) H' R)
    (q : ∀ D H', H1 D = none → Same H1 H' → H' D = some (.lst (xs.map f)) → Q (.ref D) H') (hw : ∀ v, wipe ((wipe σ vs).set k (some v)) vs = wipe σ vs := by intro _; rfl) :
    tLc (iTup K ts) (gName k) tYes te vs σ H Q := hs _ ⟨a, rfl, ⟨xs, ha⟩, lcI_map f (pureIt_tup ha) hl hel q hw⟩
end
/-! ## len of anything, an item of anything -/
section
variable {X : Cx} {K : PySem.W.Frag} {H : Hp} {Q : VK}
def rLenA (K : PySem.W.Frag) : List V → Hp → VK → Prop := fun xs H Q => ∃ x n, xs = [x] ∧ LenV K x H n ∧ Q (.int n) H
theorem cl_lenA : CallR X (.builtin "len") (rLenA X.K) := call_len
/-- a list, a tuple or a text, by its items -/
inductive Row (K : PySem.W.Frag) (H : Hp) : V → List V → Prop
  | lst {a : Addr} {xs : List V} (h : SqL K H a xs) : Row K H (.ref a) xs
  | tup {a : Addr} {xs : List V} (h : SqT K H a xs) : Row K H (.ref a) xs
  | str {z : Str} (h : z.length ≤ sizeLine) : Row K H (.str z) (signsV z)
theorem w_lenA {x : V} {xs : List V} (r : Row K H x xs) (q : Q (.int xs.length) H) : rLenA K [x] H Q := by
  cases r with
  | lst h => exact ⟨_, _, rfl, .inl ⟨_, h, rfl⟩, q⟩
  | tup h => exact ⟨_, _, rfl, .inr ⟨_, h, rfl⟩, q⟩
  | @str z h =>
    refine ⟨_, z.length, rfl, ⟨h, rfl⟩, ?_⟩
    have e : (signsV z).length = z.length := by simp [signsV, PySem.Str.length]
    rw [e] at q
    exact q
theorem atI_get {α : Type} {xs : List α} {i : Int} (h0 : 0 ≤ i) (h1 : i < xs.length) : ∃ v, atI xs i = some v ∧ xs[i.toNat]? = some v := by
  have h2 : i.toNat < xs.length := by omega
  refine ⟨xs[i.toNat], ?_, List.getElem?_eq_getElem h2⟩
  unfold atI ixN
  rw [if_pos h0, if_pos h1]
  exact List.getElem?_eq_getElem h2
theorem w_ixA {x : V} {xs : List V} {i : Int} (r : Row K H x xs) (h0 : 0 ≤ i) (h1 : i < xs.length) (q : ∀ v, v ∈ xs → xs[i.toNat]? = some v → Q v H) : rIx K x (.int i) H Q := by
  cases r with
  | lst h =>
    obtain ⟨v, e, e2⟩ := atI_get h0 h1
    exact .inl ⟨_, _, _, v, rfl, rfl, h, e, q v (List.mem_of_getElem? e2) e2⟩
  | tup h =>
    obtain ⟨v, e, e2⟩ := atI_get h0 h1
    exact .inr (.inl ⟨_, _, _, v, rfl, rfl, h, e, q v (List.mem_of_getElem? e2) e2⟩)
  | @str z h =>
    have h2 : i < z.cps.toList.length := by simpa [signsV] using h1
    obtain ⟨c, e, e2⟩ := atI_get h0 h2
    have e3 : (signsV z)[i.toNat]? = some (.str ⟨#[c]⟩) := by
      unfold signsV
      rw [List.getElem?_map, e2]
      rfl
    exact .inr (.inr ⟨z, i, c, rfl, rfl, h, e, q _ (List.mem_of_getElem? e3) e3⟩)
end
theorem eqS (a b : List Nat) : decide (V.str (SX.S a) = V.str (SX.S b)) = decide (a = b) := by
  by_cases h : a = b
  · subst h
    simp
  · rw [decide_eq_false h, decide_eq_false fun e => h (SX.S_inj (by injection e))]
/-! ## texts by their codes -/
theorem sx_len (l : List Nat) : (SX.S l).length = l.length := SX.S_len l
theorem cutS_to {l : List Nat} {k : Int} (h : 0 ≤ k) : cutS (SX.S l) none (some k) = SX.S (l.take k.toNat) := (C8.cutS_slice _ _ _).trans (SX.slice_to h)
theorem cutS_from {l : List Nat} {k : Int} (h : 0 ≤ k) : cutS (SX.S l) (some k) none = SX.S (l.drop k.toNat) := (C8.cutS_slice _ _ _).trans (SX.slice_from h)

theorem dpAll_signs {K : PySem.W.Frag} {H : Hp} : ∀ cs : List Nat, DpAll K H (cs.map fun c => V.str ⟨#[c]⟩) (cs.map fun c => PyData.str ⟨#[c]⟩)
  | [] => .nil
  | c :: cs => .cons (.str _) (dpAll_signs cs)
theorem shaped_signs {cs : List Nat} (h : ∀ c ∈ cs, c < 128) : SeqAt.shaped (.list (cs.map fun c => PyData.str ⟨#[c]⟩)) = true := by
  unfold SeqAt.shaped
  rw [Bool.and_eq_true]
  constructor
  · show PyData.canLayAll0 (cs.map fun c => PyData.str ⟨#[c]⟩) = true
    induction cs with
    | nil => rfl
    | cons c cs ih =>
      show (PyData.canLay0 (.str ⟨#[c]⟩) && PyData.canLayAll0 (cs.map fun c => PyData.str ⟨#[c]⟩)) = true
      rw [ih fun d hd => h d (List.mem_cons_of_mem _ hd), Bool.and_true]
      show (#[c] : Array Nat).all (· < 0x110000) = true
      have := h c List.mem_cons_self
      simp
      omega
  · refine decide_eq_true ?_
    show PyData.depthAll (cs.map fun c => PyData.str ⟨#[c]⟩) + 1 ≤ 64
    have e : ∀ l : List Nat, PyData.depthAll (l.map fun c => PyData.str ⟨#[c]⟩) = 0 := fun l => by
      induction l with
      | nil => rfl
      | cons c l ih =>
        show max (PyData.depth (.str ⟨#[c]⟩)) (PyData.depthAll (l.map fun c => PyData.str ⟨#[c]⟩)) = 0
        rw [ih]
        rfl
    rw [e]
    decide
theorem w_neNilS {K : PySem.W.Frag} {H : Hp} {Q : VK} {c q : Addr} {cs : List Nat} (h : H c = some (.lst (cs.map fun c => V.str ⟨#[c]⟩))) (h2 : H q = some (.lst [])) (hs : ∀ c ∈ cs, c < 128) (k : Q (.bl (!decide (cs = []))) H) : rNeD K (.ref c) (.ref q) H Q := by
  refine ⟨.list (cs.map fun c => .str ⟨#[c]⟩), .list [], .lst (SqL.of h) (dpAll_signs cs), .lst (SqL.of h2) .nil, shaped_signs hs, by decide, ?_⟩
  have e : PyData.eqv (.list (cs.map fun c => PyData.str ⟨#[c]⟩)) (.list []) = decide (cs = []) := by
    cases cs with
    | nil => rfl
    | cons n r => rfl
  rw [e]
  exact k
theorem addlen {a b : Str} (ha : a.length ≤ 1000000) (hb : b.length ≤ 1000000) : a.length + b.length ≤ sizeLine := by
  have := sizeLine_eq
  omega
theorem w_mulS {H : Hp} {Q : VK} {z : Str} {n : Int} (h : 2 ≤ n ∧ n ≤ 100000 ∧ 0 < z.length ∧ z.length * n.toNat ≤ sizeLine) (q : Q (.str ⟨(List.replicate n.toNat z.cps).foldl (· ++ ·) #[]⟩) H) : rMulS (.str z) (.int n) H Q := ⟨z, n, rfl, rfl, h, q⟩
/-- data equal to itself -/
theorem w_eqD {K : PySem.W.Frag} {H : Hp} {Q : VK} {x y : V} {d e : PyData} {b : Bool} (hd : Dp K H x d) (he : Dp K H y e) (sd : SeqAt.shaped d = true) (se : SeqAt.shaped e = true) (h : PyData.eqv d e = b) (q : Q (.bl b) H) : rEqD K x y H Q := ⟨d, e, hd, he, sd, se, by rw [h]; exact q⟩
end LB
set_option Elab.async false
set_option linter.all false
set_option maxRecDepth 100000
set_option maxHeartbeats 4000000
namespace PySem
/-- enumerate(v) begins, v told by how its iterator begins -/
theorem lb_meets_enum {u : Value} {o : Obj} {G : Heap → Prop} (B : Begins u o G) :
    Meets (Builtin.«enumerate.__new__» ⟨[.type "enumerate", u], []⟩) (fun _ R sh => G sh.heap ∧
      R (.ok (.ret (.ref (sh.heap.push o).objs.size))) { sh with heap := (sh.heap.push o).push { cls := .type "enumerate", data := .fields #[.none, .bool false, .ref sh.heap.objs.size, rawInt 0, .none, .none] } }) :=
  .of_wp fun prog w A R sh hyp => by
    obtain ⟨hp, g, d, tk, os⟩ := sh
    obtain ⟨g1, hyp⟩ := hyp
    have hsub := sub_enumerate
    have begin_ : ∀ {A' : Around} {E : Value → Shared → Prop} {Q : Value → Shared → Prop}, Q (.ref hp.objs.size) ⟨hp.push o, g, d, tk, os⟩ → wpAny (model prog w) A' (pyIter u) Q E ⟨hp, g, d, tk, os⟩ :=
      fun y => B.iter prog w _ _ ⟨hp, g, d, tk, os⟩ _ g1 y
    wp_walk using begin_
    refine wpAny_stack_any fun _ => wpAny_pure ?_
    split
    · rename_i c _ _ _ _ _
      cases (c == Value.type "enumerate") <;> wp_walk using begin_ <;> exact ⟨_, rfl, hyp⟩
    · wp_walk using begin_
      exact ⟨_, rfl, hyp⟩
section
variable {prog : Program} {w : World} {A : Around} {E : Value → Shared → Prop} {s : Shared}
theorem lb_enum_begins {u : Value} {o : Obj} {G : Heap → Prop} {Q : Value → Shared → Prop} (B : Begins u o G) (g1 : G s.heap)
    (k : ∀ h', IsEnum h' (s.heap.objs.size + 1) s.heap.objs.size 0 .none → h'.get? s.heap.objs.size = some o → h'.objs.size = s.heap.objs.size + 2 →
      (∀ b p, s.heap.get? b = some p → h'.get? b = some p) → Q (.ref (s.heap.objs.size + 1)) { s with heap := h' }) :
    wpAny (model prog w) A (call (.type "enumerate") [u]) Q E s := by
  refine callType_new F.called_enumerate (by decide) (F.typeCall_enumerate_1 _) (F.newCall_enumerate_1 _) (fun ob => F.args_object_init_2 ob _) F.entry_enumerate_new (lb_meets_enum B) ⟨g1, ?_⟩
  have sz : (s.heap.push o).objs.size = s.heap.objs.size + 1 := Heap.size_push ..
  show _ ∧ _
  rw [sz]
  have en : IsEnum ((s.heap.push o).push { cls := .type "enumerate", data := .fields #[.none, .bool false, .ref s.heap.objs.size, rawInt 0, .none, .none] }) (s.heap.objs.size + 1) s.heap.objs.size 0 .none := by
    have y := Heap.get?_push_size (s.heap.push o) (o := { cls := .type "enumerate", data := .fields #[.none, .bool false, .ref s.heap.objs.size, rawInt 0, .none, .none] }) rfl
    rw [sz] at y
    exact y
  exact ⟨⟨_, en, rfl⟩, k _ en (Heap.get?_push_of_some _ (Heap.get?_push_size _ B.free)) (by rw [Heap.size_push, sz]) fun b p x => Heap.get?_push_of_some _ (Heap.get?_push_of_some _ x)⟩
end
end PySem
namespace LB
open PySem PySem.Spec PyProof.Rows L2
/-! ## enumerate over a text, over a tuple -/
/-- the items xs one by one, each in a new pair with its number; S: what holds of the heap at each turn -/
def Itw (S : Hp → Prop) (xs : List V) : It where
  go := fun i H => S H ∧ i < xs.length
  yld := fun i H v H' => ∃ T x, v = .ref T ∧ H T = none ∧ xs[i]? = some x ∧ H' = upd H T (.tup [.int (i : Nat), x])
  stop := fun i H => S H ∧ xs.length ≤ i
theorem turn_enumW {P : Program} {w : World} {K : PySem.W.Frag} {elts : List Expr} {kk : Nat} {tpos : Pos} {xs : List V} {S : Hp → Prop} {e it : Addr} {fpD : List Addr} {PD : Nat → Value → Prop} {St : Nat → Heap → Prop} {Ex : Heap → Prop}
    (D : ∀ A : Around, A.handled = none → Draws P w A it fpD xs.length PD (fun i h => St i h ∧ Ex h))
    (hP : ∀ i u, PD i u → ∃ x, xs[i]? = some x ∧ RelV x u)
    (hS : ∀ (X : Cx) (pins : List (Addr × Obj)) (σ : L2.St) (H : Hp) (s : Shared), X.K = K → Inv X pins σ H s → S H → Ex s.heap)
    (hSt : ∀ i (h h' : Heap), St i h → (∀ o, h.get? it = some o → h'.get? it = some o) → St i h')
    (hobj : ∀ i (h : Heap), St i h → ∃ o, h.get? it = some o ∧ ∀ v, o.data ≠ .cell v) (hne : e ≠ it) (hef : e ∉ fpD) :
    Turn P w K (.Tuple elts kk tpos) (Itw S xs) [e, it] e (fun i h => (∃ old, IsEnum h e it ((i : Nat) : Int) old) ∧ St i h ∧ i ≤ xs.length) where
  mem := by simp
  obj := fun i h st b hb => by
    obtain ⟨⟨old, he⟩, hs, _⟩ := st
    rcases (by simpa using hb : b = e ∨ b = it) with z | z
    · exact ⟨_, by rw [z]; exact he, fun v q => by cases q⟩
    · rw [z]
      exact hobj i h hs
  keep := fun i h h' st k => by
    obtain ⟨⟨old, he⟩, hs, hl⟩ := st
    exact ⟨⟨old, k e (by simp) _ he⟩, hSt i h h' hs (k it (by simp)), hl⟩
  item := by
    intro X eP ew eK hc i pins s σ H E I hf st hg
    subst eP ew
    obtain ⟨⟨old, he⟩, hs, hl⟩ := st
    obtain ⟨hSH, hlt⟩ := hg
    have hh : X.A.handled = none := I.ok.hd hc
    have Di := D X.A.in1 hh
    have lte : e < s.heap.objs.size := Heap.lt_size he
    have lti : it < s.heap.objs.size := by
      obtain ⟨o, y, _⟩ := hobj i _ hs
      exact Heap.lt_size y
    refine wpAny_pyNext_enum_itemD Di he ⟨hs, hS X pins σ H s eK I hSH⟩ hlt hne hef fun y h' tk hy hout hs' hT hsz hk => ?_
    obtain ⟨x, hx, rx⟩ := hP i y hy
    refine ⟨_, rfl, wpAny_letOwnedTupleGo_enum (s := { s with heap := h', toks := tk + 1 }) hout fun h2 he2 sb => ?_⟩
    have hT2 : h2.get? s.heap.objs.size = some { cls := .type "tuple", data := .seq #[.int i tk, y] } := (sb.2 _ (Nat.ne_of_gt lte)).trans hT
    have ok : ObjOk X.prog X.w (upd H s.heap.objs.size (.tup [.int (i : Nat), x])) h2 s.heap.objs.size (.tup [.int (i : Nat), x]) :=
      ⟨by show 2 ≤ sizeLine; rw [sizeLine_eq]; decide, [.int i tk, y], .cons ⟨tk, rfl⟩ (.cons rx .nil), ⟨_, hT2, rfl, _, rfl⟩⟩
    have I2 : Inv X pins σ (upd H s.heap.objs.size (.tup [.int (i : Nat), x])) { s with heap := h2, toks := tk + 1 } :=
      I.turnedNew (ch := [e, it]) (fun b ob hb q => by
        have b1 : b ≠ e := fun z => hb (by rw [z]; simp)
        have b2 : b ≠ it := fun z => hb (by rw [z]; simp)
        exact (sb.2 b b1).trans (hk b ob b1 b2 q)) hf (Nat.le_refl _) ok
    refine ⟨.ref s.heap.objs.size, _, I2, rfl, ⟨_, x, rfl, I.hok.fresh (Nat.le_refl _), hx, rfl⟩, ⟨⟨y, ?_⟩, hSt _ _ _ hs'.1 fun o q => (sb.2 it (Ne.symm hne)).trans q, hlt⟩, fun b hb => ?_⟩
    · rw [show ((i + 1 : Nat) : Int) = (i : Int) + 1 by omega]
      exact he2
    · have lb : b < s.heap.objs.size := by
        rcases (by simpa using hb : b = e ∨ b = it) with z | z <;> rw [z] <;> assumption
      rw [upd_ne (Nat.ne_of_lt lb)]
      exact (hf b hb).1
  done := by
    intro X eP ew eK hc i pins s σ H E I hf st hg
    subst eP ew
    obtain ⟨⟨old, he⟩, hs, hl⟩ := st
    obtain ⟨hSH, hge⟩ := hg
    have ei : i = xs.length := Nat.le_antisymm hl hge
    subst ei
    obtain ⟨f0, f1, f2, f3, f4, f5⟩ := hf it (by simp)
    exact wpAny_pyNext_enum_endD (D X.A.in1 (I.ok.hd hc)) he ⟨hs, hS X pins σ H s eK I hSH⟩ fun h' eb => ⟨rfl, I.turned (t' := s.toks) (fun b o hb q => eb b o hb q) f0 f1 f3 f4 f5⟩
  self := fun A i s Q E st h => by
    obtain ⟨⟨_, he⟩, _⟩ := st
    exact wpAny_pyIter_enum he h
def iEnumS (ta : TA) : TI := fun σ H R => ta σ H fun vs H1 => ∃ z, vs = [.str z] ∧ R (Itw (fun _ => True) (signsV z)) H1
theorem signs_get {z : Str} {i c : Nat} (h : z.cps[i]? = some c) : (signsV z)[i]? = some (.str ⟨#[c]⟩) := by
  unfold signsV
  rw [List.getElem?_map, Array.getElem?_toList, h]
  rfl
theorem pi_enumS {X : Cx} {e : Expr} {ta : TA} {p pos tpos : Pos} {elts : List Expr} {kk : Nat} (hg : Gl X "enumerate") (hm : X.mg "enumerate" = none) (ha : PA X [e] ta)
    (hs : starEach [e] X.env = [(false, eval e X.env)] := by rfl) : PI X (.Tuple elts kk tpos) (.Call (.Name "enumerate" p) [e] [] pos) (iEnumS ta) := by
  refine ⟨fun pins s σ H R I h => ?_⟩
  refine Call_ (ld_blt I hg hm boot_enumerate (PyProof.Rows.callWith_type1 (thn (ha.run pos pins s σ H _ I h) fun us s1 ⟨vs, H1, I1, r1, z, ez, q⟩ => ?_) hs rfl))
  subst ez
  cases r1 with
  | cons r rr =>
    cases rr
    obtain ⟨t, rfl⟩ := r
    refine call_enumerate_str fun h' he hit hsz hk => wpAny_pyIter_enum he ?_
    have I2 : Inv X pins σ H1 { s1 with heap := h' } := I1.kept (t' := s1.toks) hk
    have len : (signsV z).length = z.cps.size := by simp [signsV]
    refine ⟨s1.heap.objs.size + 1, [s1.heap.objs.size + 1, s1.heap.objs.size], _, _, H1, rfl, I2, turn_enumW (xs := signsV z) (fpD := [s1.heap.objs.size]) (PD := fun i v => ∃ c u, z.cps[i]? = some c ∧ v = .str ⟨#[c]⟩ u)
      (St := fun i h => h.IsStrIter s1.heap.objs.size (strIterType z) z t i) (Ex := fun _ => True) (fun A hA => ?_) (fun i u hu => ?_) (fun _ _ _ _ _ _ _ _ => trivial) (fun i h h2 st k => ?_) (fun i h st => ?_) (Nat.succ_ne_self _) ?_, ⟨⟨.none, he⟩, hit, Nat.zero_le _⟩, fun b hb => ?_, q⟩
    · rw [len]
      have D := Draws.text (prog := X.prog) (w := X.w) hA s1.heap.objs.size z t
      exact ⟨fun i h st => D.live i h st.1, fun i h h' st k => ⟨D.frame i h h' st.1 k, trivial⟩, fun i s Q E hi st hQ => D.item i s Q E hi st.1 fun x h' tk a b c => hQ x h' tk a ⟨b, trivial⟩ c, fun s Q E st hE => D.done s Q E st.1 hE⟩
    · obtain ⟨c, u', hc, rfl⟩ := hu
      exact ⟨_, signs_get hc, ⟨u', rfl⟩⟩
    · obtain ⟨o, ho, r⟩ := st
      exact ⟨o, k o ho, r⟩
    · obtain ⟨o, ho, _, hd⟩ := st
      exact ⟨o, ho, fun v y => by rw [hd] at y; cases y⟩
    · simp
    · have hle : s1.heap.objs.size ≤ b := by
        rcases (by simpa using hb : b = s1.heap.objs.size + 1 ∨ b = s1.heap.objs.size) with y | y <;> rw [y]
        · exact Nat.le_succ _
        · exact Nat.le_refl _
      exact I1.fpOk hle (I1.hok.fresh hle)
/-- .. over a tuple -/
def iEnumT (K : PySem.W.Frag) (ta : TA) : TI := fun σ H R => ta σ H fun vs H1 => ∃ a xs, vs = [.ref a] ∧ SqT K H1 a xs ∧ R (Itw (fun H' => SqT K H' a xs) xs) H1
theorem pi_enumT {X : Cx} {e : Expr} {ta : TA} {p pos tpos : Pos} {elts : List Expr} {kk : Nat} (hg : Gl X "enumerate") (hm : X.mg "enumerate" = none) (ha : PA X [e] ta)
    (hs : starEach [e] X.env = [(false, eval e X.env)] := by rfl) : PI X (.Tuple elts kk tpos) (.Call (.Name "enumerate" p) [e] [] pos) (iEnumT X.K ta) := by
  refine ⟨fun pins s σ H R I h => ?_⟩
  refine Call_ (ld_blt I hg hm boot_enumerate (PyProof.Rows.callWith_type1 (thn (ha.run pos pins s σ H _ I h) fun us s1 ⟨vs, H1, I1, r1, a, xs, ez, hq, q⟩ => ?_) hs rfl))
  subst ez
  cases r1 with
  | cons r rr =>
    cases rr
    cases r
    obtain ⟨its, rv, pT, hz⟩ := I1.tuple hq
    refine lb_enum_begins (begins_tuple a its.toArray) pT fun h' he hob hsz hk => wpAny_pyIter_enum he ?_
    have hit : h'.IsTupleIter s1.heap.objs.size a 0 := ⟨_, hob, rfl, rfl⟩
    have I2 : Inv X pins σ H1 { s1 with heap := h' } := I1.kept (t' := s1.toks) hk
    have len : xs.length = its.toArray.size := by rw [rv.length]; simp
    have lta : a < s1.heap.objs.size := by
      obtain ⟨o, y, _⟩ := pT
      exact Heap.lt_size y
    refine ⟨s1.heap.objs.size + 1, [s1.heap.objs.size + 1, s1.heap.objs.size], _, _, H1, rfl, I2, turn_enumW (xs := xs) (fpD := [s1.heap.objs.size, a]) (PD := fun i u => ∃ x, xs[i]? = some x ∧ RelV x u)
      (St := fun i h => h.IsTupleIter s1.heap.objs.size a i) (Ex := fun h => ∃ ys : List Value, Vals xs ys ∧ h.IsTuple a ys.toArray) (fun A hA => ?_) (fun i u hu => hu) (fun X' pins' σ' H' s' eK I' hS' => ?_) (fun i h h2 st k => ?_) (fun i h st => ?_) (Nat.succ_ne_self _) ?_, ⟨⟨.none, he⟩, hit, Nat.zero_le _⟩, fun b hb => ?_, q⟩
    · have D := fun ys : List Value => Draws.tuple (prog := X.prog) (w := X.w) hA s1.heap.objs.size a (Nat.ne_of_lt lta) ys.toArray
      have sz : ∀ {ys : List Value}, Vals xs ys → ys.toArray.size = xs.length := fun r => by
        rw [r.length]
        simp
      refine ⟨fun i h st => ?_, fun i h h' st k => ?_, fun i s Q E hi st hQ => ?_, fun s Q E st hE => ?_⟩
      · obtain ⟨t1, ys, r, t2⟩ := st
        exact (D ys).live i h ⟨t1, t2⟩
      · obtain ⟨t1, ys, r, t2⟩ := st
        obtain ⟨t1', t2'⟩ := (D ys).frame i h h' ⟨t1, t2⟩ k
        exact ⟨t1', ys, r, t2'⟩
      · obtain ⟨t1, ys, r, t2⟩ := st
        refine (D ys).item i s Q E (by rw [sz r]; exact hi) ⟨t1, t2⟩ fun u h' tk a b c => hQ u h' tk ?_ ⟨b.1, ys, r, b.2⟩ c
        obtain ⟨u2, h2, r2⟩ := r.get (List.getElem?_eq_getElem hi)
        have hu : ys[i]? = some u := by
          have a' : ys.toArray[i]? = some u := a
          simpa using a'
        rw [hu] at h2
        cases h2
        exact ⟨_, List.getElem?_eq_getElem hi, r2⟩
      · obtain ⟨t1, ys, r, t2⟩ := st
        refine (D ys).done s Q E ?_ hE
        rw [sz r]
        exact ⟨t1, t2⟩
    · obtain ⟨ys, r, pt, _⟩ := I'.tuple (eK ▸ hS')
      exact ⟨ys, r, pt⟩
    · exact st.at fun o y => k o y
    · obtain ⟨o, ho, _, hd⟩ := st
      exact ⟨o, ho, fun v y => by rw [hd] at y; cases y⟩
    · intro y
      have y2 : s1.heap.objs.size + 1 = a := by simpa using y
      exact absurd lta (by rw [← y2]; exact Nat.not_lt.mpr (Nat.le_succ _))
    · have hle : s1.heap.objs.size ≤ b := by
        rcases (by simpa using hb : b = s1.heap.objs.size + 1 ∨ b = s1.heap.objs.size) with y | y <;> rw [y]
        · exact Nat.le_succ _
        · exact Nat.le_refl _
      exact I1.fpOk hle (I1.hok.fresh hle)
/-! ## what stands behind the top: facts of any kind, defs at any address -/
/-- a def of the text, by its address -/
structure GD where
  ad : PySem.W.Frag → Addr
  nm : Str
  qn : Str
  st : Stmt
  dv : List He.Dv := []
def fnA (K : PySem.W.Frag) (a : Addr) : He.FnW := match K.lookup a with
  | some ⟨_, _, .func z, _⟩ => some (z.name, z.qualname, z.params, z.body, z.scope, z.globals, z.closure, z.builtins)
  | _ => none
def GD.val (d : GD) : He.FnW := some (d.nm, d.qn, defArgs d.st, .stmts (defBody d.st), defScope d.st, mainGlobals, [], builtinsNs)
def GD.dvs (K : PySem.W.Frag) (d : GD) : List V := d.dv.map (He.Dv.v K)
def GD.ok (K : PySem.W.Frag) (d : GD) : Bool := PySem.W.keepIn K (.ref (d.ad K)) && (match K.lookup (d.ad K) with
  | some ⟨_, _, .func z, _⟩ => PySem.W.codeIn K z.code d.qn && (He.dflB K z.defaults (d.dvs K) && He.kwdB K z.kwdefaults [])
  | _ => false)
/-- the def as it stands -/
def FA (K : PySem.W.Frag) (nm qn : Str) (st : Stmt) (dvs : List V) (f : Addr) : Prop := ∃ fd : FuncData, FunD K nm qn (defArgs st) (defBody st) (defScope st) dvs [] f fd
theorem GD.fa {K : PySem.W.Frag} {d : GD} (e : fnA K (d.ad K) = d.val) (c : d.ok K = true) : FA K d.nm d.qn d.st (d.dvs K) (d.ad K) := by
  obtain ⟨kp, c2⟩ := He.ba c
  unfold fnA at e
  cases q : K.lookup (d.ad K) with
  | none =>
    rw [q] at c2
    cases c2
  | some o =>
    obtain ⟨oc, od, dt, osl⟩ := o
    rw [q] at c2 e
    cases dt with
    | func z =>
      obtain ⟨n1, n2, n3, n4, n5, n6, n7, n8, n9, n10, n11, n12, n13, n14, n15⟩ := z
      have e2 : (some (n1, n2, n3, n4, n5, n6, n7, n15) : He.FnW) = some (d.nm, d.qn, defArgs d.st, .stmts (defBody d.st), defScope d.st, mainGlobals, [], builtinsNs) := e
      simp only [Option.some.injEq, Prod.mk.injEq] at e2
      obtain ⟨h1, h2, h3, h4, h5, h6, h7, h8⟩ := e2
      subst h1 h2 h3 h4 h5 h6 h7 h8
      obtain ⟨k1, k2⟩ := He.ba (show (PySem.W.codeIn K n13 d.qn && (He.dflB K n8 (d.dvs K) && He.kwdB K n9 [])) = true from c2)
      obtain ⟨k3, k4⟩ := He.ba k2
      exact ⟨_, ⟨oc, od, n8, n9, n10, n11, n12, n13, n14, osl, rfl, q, k1, He.dflB_ok k3, He.kwdB_ok k4⟩, kp⟩
    | _ => cases c2
abbrev GV : Type := Bool × List He.FnW
def gobs (fs : List (PySem.W.Frag → Bool)) (ds : List GD) (K : PySem.W.Frag) : GV := (fs.all (fun f => f K) && ds.all fun d => d.ok K, ds.map fun d => fnA K (d.ad K))
def gval (ds : List GD) : GV := (true, ds.map GD.val)
def GSays (fs : List (PySem.W.Frag → Bool)) (ds : List GD) (K : PySem.W.Frag) : Prop := gobs fs ds K = gval ds
def gobsG (n : Nat) (fs : List (PySem.W.Frag → Bool)) (ds : List GD) (g : Addr → Option Obj) : GV := gobs fs ds (He.frG g (He.asD g n))
def ghook (n : Nat) (fs : List (PySem.W.Frag → Bool)) (ds : List GD) : PySem.W.Hook where
  α := GV
  val := fun _ => gval ds
  obs := fun sh => gobsG n fs ds sh.heap.get?
  says := fun _ hp => ∃ K : PySem.W.Frag, K.In hp ∧ GSays fs ds K
  of := fun _ _ q => ⟨_, He.frG_in, q⟩
  keeps := fun _ _ _ ⟨K, i, c⟩ q => ⟨K, PySem.W.Frag.In.keeps i q, c⟩
theorem gobsG_eq {n : Nat} {fs : List (PySem.W.Frag → Bool)} {ds : List GD} {g : Addr → Option Obj} {sh : Shared} (h : ∀ a, g a = sh.heap.get? a) : gobsG n fs ds g = (ghook n fs ds).obs sh := by
  obtain rfl : g = sh.heap.get? := funext h
  rfl
section
variable {fs : List (PySem.W.Frag → Bool)} {ds : List GD} {K : PySem.W.Frag}
theorem GSays.fact (c : GSays fs ds K) (i : Nat) {f : PySem.W.Frag → Bool} (h : fs[i]? = some f := by rfl) : f K = true := by
  have e : (fs.all (fun f => f K) && ds.all fun d => d.ok K) = true := congrArg Prod.fst c
  exact List.all_eq_true.mp (He.ba e).1 f (List.mem_of_getElem? h)
theorem GSays.at_ (c : GSays fs ds K) (i : Nat) {d : GD} (h : ds[i]? = some d := by rfl) : FA K d.nm d.qn d.st (d.dvs K) (d.ad K) := by
  have e : (fs.all (fun f => f K) && ds.all fun d => d.ok K) = true := congrArg Prod.fst c
  have e2 : (ds.map fun d => fnA K (d.ad K))[i]? = (ds.map GD.val)[i]? := by rw [show (ds.map fun d => fnA K (d.ad K)) = ds.map GD.val from congrArg Prod.snd c]
  rw [List.getElem?_map, List.getElem?_map, h] at e2
  exact GD.fa (Option.some.inj e2) (List.all_eq_true.mp (He.ba e).2 d (List.mem_of_getElem? h))
end

/-! ## calls: one record a function, wherever it stands; dvs fill up what is not written -/
section
variable (P : Program) (w : World) (K : PySem.W.Frag) (mg : Str → Option Value) (base : Heap)
structure Fr (k : Nat) (f : Addr) (ps : List Str) (dvs : List V) (sp : Sp) : Prop where
  ex : ∃ (fd : FuncData) (ds : List Value), FnOk P w K mg base CX0 k f fd ps sp ∧ Binds K fd ps ds ∧ Vals dvs ds
end
section
variable {P : Program} {w : World} {K : PySem.W.Frag} {mg : Str → Option Value} {base : Heap} {x q : Str} {st : Stmt} {ps N : List Str} {sp : Sp} {k : Nat} {f : Addr} {dvs : List V}
/-- what a body's walk must show -/
def BodyOk (P : Program) (w : World) (K : PySem.W.Frag) (mg : Str → Option Value) (base : Heap) (k : Nat) (q : Str) (st : Stmt) (N : List Str) (sp : Sp) : Prop :=
  ∀ (f : Addr) (cdv : Value) (A : Around) (outer : List Env) (s : Shared) (H : Hp) (vs : List V) (Q : VK) (E : XK), Room k (A.deeper (envOfC q (defScope st) s.heap.objs.size f cdv)) → sp vs H Q E →
    ∃ t, PSs (cxOf CX0 P w K mg base N q (defScope st) f cdv A outer s H E) (defBody st) t ∧ t { nx := fun _ H' => Q .non H', rt := Q } (start N vs) H
/-- no defaults -/
theorem fr_of0 (F : FA K x q st [] f) (hb : ∀ (kV doc pm : Value) (an : Option Addr) (cdv ct : Value) (us : List Value), us.length = ps.length → bindArgs (PySem.W.fnOf x q (defArgs st) (defBody st) (defScope st) .none kV doc pm an cdv ct) ⟨us, []⟩ = pure (ps.zip us))
    (S : FnScope N ps (defScope st)) (len : ∀ vs H Q E, sp vs H Q E → vs.length = ps.length) (hbody : BodyOk P w K mg base k q st N sp) : Fr P w K mg base (k + 1) f ps [] sp := by
  obtain ⟨fd, F⟩ := F
  exact ⟨fd, [], F.ok S len fun cdv A outer s H vs Q E hr h => hbody f cdv A outer s H vs Q E hr h, F.bindsN hb, .nil⟩
/-- the defaults behind the first j fill up: n values are written -/
theorem fr_ofD (n j : Nat) (F : FA K x q st dvs f) (hd : dvs ≠ []) (hn : n + (dvs.length - j) = ps.length)
    (hb : ∀ (T : Addr) (kV doc pm : Value) (an : Option Addr) (cdv ct : Value) (us its : List Value), us.length = n → its.length = dvs.length →
      ∃ k, bindArgs (PySem.W.fnOf x q (defArgs st) (defBody st) (defScope st) (.ref T) kV doc pm an cdv ct) ⟨us, []⟩ = seqItems? (.ref T) >>= k ∧ k (some its.toArray) = pure (ps.zip (us ++ its.drop j)))
    (S : FnScope N ps (defScope st)) (len : ∀ vs H Q E, sp vs H Q E → vs.length = ps.length) (hbody : BodyOk P w K mg base k q st N sp) : Fr P w K mg base (k + 1) f ps (dvs.drop j) sp := by
  obtain ⟨fd, F⟩ := F
  obtain ⟨ds, v, b⟩ := F.binds1 n j hd hn hb
  exact ⟨fd, ds, F.ok S len fun cdv A outer s H vs Q E hr h => hbody f cdv A outer s H vs Q E hr h, b, v⟩
end
section
variable {X : Cx} {k j : Nat} {f C g pr : Addr} {ps : List Str} {dvs : List V} {sp : Sp} {x m : Str} {p pos apos : Pos} {e o : Expr} {es : List Expr} {ta : TE} {t : TA}
theorem pe_f (c : Fr X.prog X.w X.K X.mg X.base k f ps dvs sp) (hm : X.mg x = some (.ref f)) (kp : PySem.W.keepIn X.K (.ref f) = true) (hr : Room j X.A) (hk : k ≤ j) (hg : Gl X x) (ha : PA X (e :: es) t)
    (hdb : (x == ("__debug__" : Str)) = false := by decide) (he : starEach (e :: es) X.env = (false, eval e X.env) :: starEach es X.env := by rfl) (hpl : (backTo pos (starEach es X.env)).any (·.1) = false := by rfl) :
    PE X (.Call (.Name x p) (e :: es) [] pos) (tCall sp dvs E0 t) := by
  obtain ⟨fd, ds, ok, b, v⟩ := c.ex
  exact pe_call ok (hr.mono hk) hg hm kp b v pass0 ha hdb he hpl
theorem pe_mk (c : Fr X.prog X.w X.K X.mg X.base k f ps dvs sp) (M : Mk X.K C f) (hm : X.mg x = some (.ref C)) (hr : Room j X.A) (hk : k + 1 ≤ j) (hg : Gl X x) (ha : PA X (e :: es) t)
    (hdb : (x == ("__debug__" : Str)) = false := by decide) (he : starEach (e :: es) X.env = (false, eval e X.env) :: starEach es X.env := by rfl) (hpl : (backTo pos (starEach es X.env)).any (·.1) = false := by rfl) :
    PE X (.Call (.Name x p) (e :: es) [] pos) (tMake C sp dvs E0 t) := by
  obtain ⟨fd, ds, ok, b, v⟩ := c.ex
  exact pe_make M ok (hr.mono hk) hg hm b v pass0 ha hdb he hpl
theorem pe_mk0 (c : Fr X.prog X.w X.K X.mg X.base k f ps dvs sp) (M : Mk X.K C f) (hm : X.mg x = some (.ref C)) (hr : Room j X.A) (hk : k + 1 ≤ j) (hg : Gl X x)
    (hdb : (x == ("__debug__" : Str)) = false := by decide) : PE X (.Call (.Name x p) [] [] pos) (tMake C sp dvs E0 tNil) := by
  obtain ⟨fd, ds, ok, b, v⟩ := c.ex
  exact pe_make0 M ok (hr.mono hk) hg hm b v pass0 hdb
theorem pe_mt {pl : Sem Bool} (c : Fr X.prog X.w X.K X.mg X.base k f ps dvs sp) (cl : Cls X.K C) (hm : Meth X.K C m f) (hr : Room j X.A) (hk : k ≤ j) (he : PE X o ta) (ha : PA X (e :: es) t)
    (hst : starEach (e :: es) X.env = (false, eval e X.env) :: starEach es X.env := by rfl) (hpl : (backTo pos (starEach es X.env)).any (·.1) = false := by rfl)
    (ht : eval (.Call (.Attribute o m apos) (e :: es) [] pos) X.env = (do
      let ob ← eval o X.env
      standAt apos.atName
      let (fn, first) ← holding [ob] (getMethod ob m pl)
      callWith pos fn first (backTo pos (starEach (e :: es) X.env)) (backToKw pos (keywordEach [] X.env))) := by rfl) :
    PE X (.Call (.Attribute o m apos) (e :: es) [] pos) (tMeth C m sp dvs E0 ta t) := by
  obtain ⟨fd, ds, ok, b, v⟩ := c.ex
  exact pe_meth he cl hm ok (hr.mono hk) b v pass0 ha hst hpl ht
theorem pe_mt0 {pl : Sem Bool} (c : Fr X.prog X.w X.K X.mg X.base k f ps dvs sp) (cl : Cls X.K C) (hm : Meth X.K C m f) (hr : Room j X.A) (hk : k ≤ j) (he : PE X o ta)
    (ht : eval (.Call (.Attribute o m apos) [] [] pos) X.env = (do
      let ob ← eval o X.env
      standAt apos.atName
      let (fn, first) ← holding [ob] (getMethod ob m pl)
      callWith pos fn first (backTo pos (starEach [] X.env)) (backToKw pos (keywordEach [] X.env))) := by rfl) :
    PE X (.Call (.Attribute o m apos) [] [] pos) (tMeth C m sp dvs E0 ta tNil) := by
  obtain ⟨fd, ds, ok, b, v⟩ := c.ex
  exact pe_meth0 he cl hm ok (hr.mono hk) b v pass0 ht
theorem pe_pr (c : Fr X.prog X.w X.K X.mg X.base k g ps dvs sp) (cl : Cls X.K C) (hp : PropOf X.K C m pr g) (hr : Room j X.A) (hk : k + 1 ≤ j) (he : PE X e ta)
    (hab : attributeBase e m X.env (eval e X.env) = eval e X.env := by rfl) : PE X (.Attribute e m pos) (tProp C sp dvs E0 ta) := by
  obtain ⟨fd, ds, ok, b, v⟩ := c.ex
  exact pe_prop he cl hp ok (hr.mono hk) b v pass0 hab
end
/-! ## one of several rules, chosen by the reading -/
section
variable {X : Cx} {ι : Type}
theorem pe_some {e : Expr} {t : ι → TE} (h : ∀ i, PE X e (t i)) : PE X e (fun σ H Q => ∃ i, t i σ H Q) := ⟨fun pins s σ H Q I ⟨i, q⟩ => (h i).run pins s σ H Q I q⟩
theorem pi_some {tg e : Expr} {t : ι → TI} (h : ∀ i, PI X tg e (t i)) : PI X tg e (fun σ H R => ∃ i, t i σ H R) := ⟨fun pins s σ H R I ⟨i, q⟩ => (h i).run pins s σ H R I q⟩
def tAny (t : ι → TE) : TE := fun σ H Q => ∃ i, t i σ H Q
def iAny (t : ι → TI) : TI := fun σ H R => ∃ i, t i σ H R
theorem pe_any {e : Expr} {t : ι → TE} (h : ∀ i, PE X e (t i)) : PE X e (tAny t) := pe_some h
theorem pi_any {tg e : Expr} {t : ι → TI} (h : ∀ i, PI X tg e (t i)) : PI X tg e (iAny t) := pi_some h
end
/-! ## list(text); an instance called; str(instance) -/
section
variable {X : Cx}
def rListS : List V → Hp → VK → Prop := fun xs H Q => ∃ z, xs = [.str z] ∧ z.length ≤ sizeLine ∧ ∀ l, H l = none → Q (.ref l) (upd H l (.lst (signsV z)))
theorem cl_listS (hc : X.calm = true) : CallR X (.type "list") rListS := by
  intro pins s σ H xs us Q I r h
  obtain ⟨z, rfl, hz, q⟩ := h
  obtain ⟨u, rfl, t, rfl⟩ := vals1 r
  refine PySem.call_list_str (I.ok.hd hc) z t (fun h' tk acc c hk hS hacc => ?_) hz
  have len : (signsV z).length = z.cps.size := by simp [signsV]
  refine ⟨.ref s.heap.objs.size, upd H s.heap.objs.size (.lst (signsV z)), I.laid hk (Nat.le_refl _) (show ObjOk X.prog X.w _ _ _ (.lst (signsV z)) from ⟨by rw [len]; exact hz, acc.toList, c, ?_, hS⟩), rfl, q _ (I.hok.fresh (Nat.le_refl _))⟩
  refine vals_of_at (by rw [len]; simp [hacc.1]) fun j x w h1 h2 => ?_
  obtain ⟨c', u', hc', rfl⟩ := hacc.2 j w (by rw [← Array.getElem?_toList]; exact h2)
  rw [signs_get hc'] at h1
  cases h1
  exact ⟨u', rfl⟩
end
/-- C's instances are called by the def at f -/
structure CallOf (K : PySem.W.Frag) (C f : Addr) : Prop where
  at_ : PySem.W.findIn K (.ref C) "__call__" = some (some (.ref f))
  fn : PySem.W.isFn K (.ref f) = true
  fi : PySem.W.fnIn K f = true
/-- str(o) of C's instances is the def at f -/
structure StrBy (K : PySem.W.Frag) (C f : Addr) : Prop where
  at_ : PySem.W.findIn K (.ref C) "__str__" = some (some (.ref f))
  fn : PySem.W.isFn K (.ref f) = true
section
open PySem.W PySem.Calls
variable {M : Model} {A : Around} {E : Value → Shared → Prop} {s : Shared} {pos : Pos} {x C : Addr} {first : List Value} {Q : Value → Shared → Prop}
theorem inst_callWith {args : List (Bool × Sem Value)} {kws : List (Option Str × Sem Value)} (hp : (args.any (·.1) || kws.any (·.1.isNone)) = false)
    (h : wpAny M A (evalArgs (.ref x) true args kws) (fun a s1 => (∃ dx od, InstAt s1.heap x (instObj C dx) C od) ∧ wpAny M A (call (.ref x) (first ++ a.pos) a.kw) Q E s1) E s) : wpAny M A (callWith pos (.ref x) first args kws) Q E s := by
  unfold callWith
  refine wpAny_bind (wpAny_holding (wpAny_mono h (fun a s1 ⟨⟨dx, od, J⟩, hc⟩ => wpAny_bind (wpAny_standAt ?_)) fun _ _ y => y))
  have L := kco_keeper (M := M) J rfl
  simp only [hp]
  refine wpAny_bind (L.here ?_)
  have fin : ∀ {t : Sem Value}, wpAny M A t Q E s1 → wpAny M A (t >>= fun r => holding [r] point >>= fun _ => pure r) Q E s1 :=
    fun ht => wpAny_bind (wpAny_mono ht (fun r _ hr => wpAny_bind (wpAny_holding (wpAny_point (wpAny_pure hr)))) fun _ _ y => y)
  exact fin (wpAny_operateT hc)
end
/-- o(e, ..), o an instance of C -/
def tInst (C : Addr) (sp : Sp) (dvs : List V) (ta : TE) (t : TA) : TE := fun σ H Q => ta σ H fun x H1 => ∃ a, x = .ref a ∧ t σ H1 fun vs H2 => (∃ dx fs, H2 a = some (.ins C dx fs)) ∧ sp (.ref a :: (vs ++ dvs)) H2 Q E0
/-- o(k = e, ..) -/
def tInstN (C : Addr) (n : Nat) (sp : Sp) (gV : List V → List V) (ta : TE) (tk : TA) : TE := fun σ H Q => ta σ H fun x H1 => ∃ a, x = .ref a ∧ tk σ H1 fun zs H2 => zs.length = n ∧ (∃ dx fs, H2 a = some (.ins C dx fs)) ∧ sp (.ref a :: gV zs) H2 Q E0
section
variable {X : Cx} {k j n : Nat} {f C : Addr} {ps ks : List Str} {dvs : List V} {sp : Sp} {pos : Pos} {e o : Expr} {es : List Expr} {ta : TE} {t tk : TA} {kws : List Keyword}
theorem run_inst {pins : List (Addr × Obj)} {σ : L2.St} {H : Hp} {s : Shared} {Q : VK} {us : List Value} {vs : List V} {kw : List (Str × Value)} {x : Addr} {fd : FuncData} {wv : List Value} {dx : Addr} {fs : List (Str × V)} (F : FnOk X.prog X.w X.K X.mg X.base CX0 k f fd ps sp) (hr : Room k X.A) (c : CallOf X.K C f)
    (I : Inv X pins σ H s) (ha : H x = some (.ins C dx fs)) (hb : BindsTo s fd ⟨.ref x :: us, kw⟩ (ps.zip wv)) (r : Vals vs wv) (h : sp vs H Q E0) : wpAny (model X.prog X.w) X.A (call (.ref x) us kw) (EP X pins σ Q) X.xe s := by
  obtain ⟨mA, O, _, _, _, _⟩ := ins_get I.hok ha
  obtain ⟨od, J, _⟩ := O.look
  refine wpAny_call (PySem.W.kco_code I.kIn J rfl c.at_ c.fn c.fi (codeAny_mono (F.run X.A X.stack s H ⟨.ref x :: us, kw⟩ wv vs Q E0 hr I.env0 hb r h) fun r s' hq => ?_))
  cases r with
  | error e => exact pass0 pins σ H s e s' I hq
  | ok fl =>
    cases fl with
    | ret u => exact I.after hq
    | next => exact False.elim hq
    | brk => exact False.elim hq
    | cont => exact False.elim hq
theorem inst_at {pins : List (Addr × Obj)} {σ : L2.St} {H : Hp} {s : Shared} {x : Addr} (I : Inv X pins σ H s) (h : ∃ dx fs, H x = some (.ins C dx fs)) : ∃ dx od, PySem.W.InstAt s.heap x (PySem.W.instObj C dx) C od := by
  obtain ⟨dx, fs, ha⟩ := h
  obtain ⟨mA, O, _, _, _, _⟩ := ins_get I.hok ha
  obtain ⟨od, J, _⟩ := O.look
  exact ⟨dx, some od, J⟩
theorem pe_ci (c : Fr X.prog X.w X.K X.mg X.base k f ps dvs sp) (cl : CallOf X.K C f) (hr : Room j X.A) (hk : k ≤ j) (he : PE X o ta) (ha : PA X (e :: es) t)
    (ht : eval (.Call o (e :: es) [] pos) X.env = (eval o X.env >>= fun fn => callWith pos fn [] (backTo pos (starEach (e :: es) X.env)) (backToKw pos (keywordEach [] X.env))) := by rfl)
    (hst : starEach (e :: es) X.env = (false, eval e X.env) :: starEach es X.env := by rfl) (hpl : (backTo pos (starEach es X.env)).any (·.1) = false := by rfl) : PE X (.Call o (e :: es) [] pos) (tInst C sp dvs ta t) := by
  obtain ⟨fd, ds, ok, b, v⟩ := c.ex
  refine ⟨fun pins s σ H Q I h => ?_⟩
  rw [ht]
  refine wpAny_bind (thn (he.run pins s σ H _ I h) fun u s1 ⟨x, H1, I1, rx, a, ex, q⟩ => ?_)
  subst ex
  obtain rfl : u = Value.ref a := rx
  have lp : ((backTo pos (starEach (e :: es) X.env)).any (·.1) || (backToKw pos (keywordEach [] X.env)).any (·.1.isNone)) = false := by
    rw [hst]
    show ((false || (backTo pos (starEach es X.env)).any (·.1)) || false) = false
    rw [hpl]
    rfl
  refine inst_callWith (C := C) lp ?_
  have hrun := thn (ha.run pos pins s1 σ H1 _ I1 q) fun us s2 ⟨vs, H2, I2, r, hi, q2⟩ => (show (∃ dx od, PySem.W.InstAt s2.heap a (PySem.W.instObj C dx) C od) ∧ wpAny (model X.prog X.w) X.A (call (.ref a) us) (EP X pins σ Q) X.xe s2 from by
    refine ⟨inst_at I2 hi, ?_⟩
    obtain ⟨dx, fs, hi⟩ := hi
    have r2 : Vals (.ref a :: (vs ++ dvs)) (.ref a :: (us ++ ds)) := .cons rfl (r.append v)
    have hl : ((Value.ref a :: us) ++ ds).length = ps.length := by
      rw [← ok.len _ _ _ _ q2]
      exact r2.length.symm
    exact run_inst ok (hr.mono hk) cl I2 hi (b s2 (.ref a :: us) I2.kIn hl) r2 q2)
  rw [hst] at hrun ⊢
  exact PySem.Calls.evalArgs_plain hrun
/-- keywords alone, all parameters given: gV puts them in order -/
theorem pe_ciN {fd : FuncData} {g : List Value → List Value} {gV : List V → List V} (ok : FnOk X.prog X.w X.K X.mg X.base CX0 k f fd ps sp) (cl : CallOf X.K C f) (hr : Room j X.A) (hk : k ≤ j) (he : PE X o ta) (hkw : PK X kws tk)
    (hb : ∀ (s : Shared) (self : Value) (ws : List Value), X.K.In s.heap → ws.length = ks.length → BindsTo s fd ⟨[self], ks.zip ws⟩ (ps.zip (self :: g ws))) (hg : ∀ {zs : List V} {ws : List Value}, Vals zs ws → Vals (gV zs) (g ws))
    (hall : (backToKw pos (keywordEach kws X.env)).all (·.1.isSome) = true := by rfl) (hks : (backToKw pos (keywordEach kws X.env)).filterMap (·.1) = ks := by rfl)
    (ht : eval (.Call o [] kws pos) X.env = (eval o X.env >>= fun fn => callWith pos fn [] (backTo pos (starEach [] X.env)) (backToKw pos (keywordEach kws X.env))) := by rfl)
    (hpl : ((backTo pos (starEach [] X.env)).any (·.1) || (backToKw pos (keywordEach kws X.env)).any (·.1.isNone)) = false := by rfl) : PE X (.Call o [] kws pos) (tInstN C ks.length sp gV ta tk) := by
  refine ⟨fun pins s σ H Q I h => ?_⟩
  rw [ht]
  refine wpAny_bind (thn (he.run pins s σ H _ I h) fun u s1 ⟨x, H1, I1, rx, a, ex, q⟩ => ?_)
  subst ex
  obtain rfl : u = Value.ref a := rx
  refine inst_callWith (C := C) hpl (PyProof.Rows.evalArgs_kw2_nil hall (thn (hkw.run pos pins s1 σ H1 _ I1 q) fun ws s2 ⟨zs, H2, I2, rz, hl, hi, q2⟩ => ⟨inst_at I2 hi, ?_⟩))
  obtain ⟨dx, fs, hi⟩ := hi
  rw [hks]
  exact run_inst ok (hr.mono hk) cl I2 hi (hb s2 (.ref a) ws I2.kIn (by rw [← hl]; exact rz.length.symm)) (.cons (show RelV (.ref a) (Value.ref a) from rfl) (hg rz)) q2
end
/-! ## generator defs -/
section
variable (P : Program) (w : World) (K : PySem.W.Frag) (mg : Str → Option Value) (base : Heap)
structure Gn (k : Nat) (x : Str) (st : Stmt) (ps : List Str) (sp : SpG) : Prop where
  ex : ∃ (f : Addr) (fd : FuncData), GFn P w K mg base k f fd ps sp ∧ mg x = some (.ref f) ∧ PySem.W.keepIn K (.ref f) = true ∧ Binds K fd ps []
end
theorem gn_of {P : Program} {w : World} {K : PySem.W.Frag} {mg : Str → Option Value} {base : Heap} {x : Str} {st : Stmt} {ps N : List Str} {sp : SpG} {k : Nat} (F : FD K mg x st)
    (hb : ∀ (kV doc pm : Value) (an : Option Addr) (cdv ct : Value) (us : List Value), us.length = ps.length → bindArgs (PySem.W.fnOf x x (defArgs st) (defBody st) (defScope st) .none kV doc pm an cdv ct) ⟨us, []⟩ = pure (ps.zip us))
    (S : GScope N ps (defScope st)) (len : ∀ vs H Q E, sp vs H Q E → vs.length = ps.length)
    (hbody : ∀ (f : Addr) (cdv : Value) (A : Around) (outer : List Env) (s : Shared) (H : Hp) (vs : List V) (Q : List V → Hp → Prop) (E : XK) (pn : List (Addr × Obj)), Room k (A.deeper (envOfC x (defScope st) s.heap.objs.size f cdv)) → sp vs H Q E →
      ∃ t, GSs (gcxOf P w K mg base N x (defScope st) f cdv A outer s H E pn) (defBody st) t ∧ t { nx := fun ys _ H' => Q ys H', rt := fun ys v H' => v = .non ∧ Q ys H' } [] (start N vs) H) : Gn P w K mg base (k + 1) x st ps sp := by
  obtain ⟨f, fd, F, g⟩ := F
  have b := F.bindsN hb
  have kp := F.kp
  obtain ⟨oc, od, dV, kV, doc, pm, an, cdv, ct, osl, rfl, lk, hcd, _, _⟩ := F.ex
  exact ⟨f, _, gfn_of lk hcd S len fun A outer s H vs Q E pn hr h => hbody f cdv A outer s H vs Q E pn hr h, g, kp, b⟩
theorem passCX0 {X : Cx} : Passes (CX X.prog X.w) X E0 := fun _ _ _ _ _ _ _ ⟨_, _, _, _, _, _, _, _, _, _, _, _, z⟩ => z.elim
section
variable {X : Cx} {k j : Nat} {x : Str} {st : Stmt} {ps : List Str} {sp : SpG} {p p1 pos pos1 : Pos} {e : Expr} {es : List Expr} {t : TA}
/-- list(f(e, ..)), f a generator def -/
theorem pe_gl (c : Gn X.prog X.w X.K X.mg X.base k x st ps sp) (hr : Room j X.A) (hk : k + 3 ≤ j) (hg : Gl X x) (hl : Gl X "list") (hm : X.mg "list" = none) (ha : PA X (e :: es) t)
    (hdb : (x == ("__debug__" : Str)) = false := by decide) (he : starEach (e :: es) X.env = (false, eval e X.env) :: starEach es X.env := by rfl) (hpl : (backTo pos1 (starEach es X.env)).any (·.1) = false := by rfl)
    (he1 : starEach [.Call (.Name x p1) (e :: es) [] pos1] X.env = (false, eval (.Call (.Name x p1) (e :: es) [] pos1) X.env) :: starEach [] X.env := by rfl) :
    PE X (.Call (.Name "list" p) [.Call (.Name x p1) (e :: es) [] pos1] [] pos) (tListG (tCallG sp [] E0 t)) := by
  obtain ⟨f, fd, ok, g, kp, b⟩ := c.ex
  exact pe_listG (pgen_call ok (hr.mono (by omega)) hg g kp b .nil ha hdb he hpl) passCX0 (fun _ _ _ z => z.elim) (hr.mono hk) hl hm rfl (he := he1)
end
/-! ## steps -/
theorem Fr.imp {P : Program} {w : World} {K : PySem.W.Frag} {mg : Str → Option Value} {base : Heap} {k : Nat} {f : Addr} {ps : List Str} {dvs : List V} {sp sp' : Sp} (F : Fr P w K mg base k f ps dvs sp) (h : ∀ vs H Q E, sp' vs H Q E → sp vs H Q E) : Fr P w K mg base k f ps dvs sp' := by
  obtain ⟨fd, ds, ok, b, v⟩ := F.ex
  exact ⟨fd, ds, ⟨fun vs H Q E q => ok.len vs H Q E (h vs H Q E q), fun A outer s H args us vs Q E hr e0 hb r q => ok.run A outer s H args us vs Q E hr e0 hb r (h vs H Q E q)⟩, b, v⟩
theorem Fr.lev {P : Program} {w : World} {K : PySem.W.Frag} {mg : Str → Option Value} {base : Heap} {k j : Nat} {f : Addr} {ps : List Str} {dvs : List V} {sp : Sp} (F : Fr P w K mg base k f ps dvs sp) (h : k ≤ j) : Fr P w K mg base j f ps dvs sp := by
  obtain ⟨fd, ds, ok, b, v⟩ := F.ex
  exact ⟨fd, ds, ⟨ok.len, fun A outer s H args us vs Q E hr e0 hb r q => ok.run A outer s H args us vs Q E (hr.mono h) e0 hb r q⟩, b, v⟩
section
variable {K : PySem.W.Frag} {D : Ends} {σ : L2.St} {H : Hp} {Q : VK} {ta tv te : TE} {t : TA} {u : TS} {a C dx : Addr} {fs : List (Str × V)} {f m : Str} {v : V} {sp : Sp} {dvs : List V}
theorem w_fld (q : ta σ H fun x H1 => ∃ a C dx fs v, x = .ref a ∧ H1 a = some (.ins C dx fs) ∧ Cls K C ∧ NoAttr K C f ∧ fs.lookup f = some v ∧ Q v H1) : tFld K ta f σ H Q := q
theorem w_fldAt {P : V → Prop} (h : H a = some (.ins C dx fs)) (c : Cls K C) (n : NoAttr K C f) (l : fs.lookup f = some v) (q : P v) :
    ∃ a' C' dx' fs' v', V.ref a = .ref a' ∧ H a' = some (.ins C' dx' fs') ∧ Cls K C' ∧ NoAttr K C' f ∧ fs'.lookup f = some v' ∧ P v' := ⟨a, C, dx, fs, v, rfl, h, c, n, l, q⟩
theorem w_con (q : ta σ H fun x H1 => ∃ a C dx fs v u, x = .ref a ∧ H1 a = some (.ins C dx fs) ∧ Cls K C ∧ Con K C f v u ∧ fs.lookup f = none ∧ Q v H1) : tCon K ta f σ H Q := q
theorem w_conAt {P : V → Prop} (h : H a = some (.ins C dx fs)) (c : Cls K C) (n : ∃ u, Con K C f v u) (l : fs.lookup f = none) (q : P v) :
    ∃ a' C' dx' fs' v' u, V.ref a = .ref a' ∧ H a' = some (.ins C' dx' fs') ∧ Cls K C' ∧ Con K C' f v' u ∧ fs'.lookup f = none ∧ P v' := let ⟨u, n⟩ := n; ⟨a, C, dx, fs, v, u, rfl, h, c, n, l, q⟩
theorem w_sFld (q : tv σ H fun y H1 => ta σ H1 fun x H2 => ∃ a C dx fs, x = .ref a ∧ H2 a = some (.ins C dx fs) ∧ Cls K C ∧ NoAttr K C f ∧ fs.length < 1000 ∧ D.nx σ (upd H2 a (.ins C dx (putF f y fs)))) : sFld K ta tv f D σ H := q
theorem w_seqF (q : sFld K ta tv f { D with nx := u D } σ H) : tSeq (sFld K ta tv f) u D σ H := q
theorem w_sFldAt {P : Hp → Prop} (h : H a = some (.ins C dx fs)) (c : Cls K C) (n : NoAttr K C f) (l : fs.length < 1000) {gs : List (Str × V)} (e : putF f v fs = gs) (q : P (upd H a (.ins C dx gs))) :
    ∃ a' C' dx' fs', V.ref a = .ref a' ∧ H a' = some (.ins C' dx' fs') ∧ Cls K C' ∧ NoAttr K C' f ∧ fs'.length < 1000 ∧ P (upd H a' (.ins C' dx' (putF f v fs'))) := ⟨a, C, dx, fs, rfl, h, c, n, l, by rw [e]; exact q⟩
theorem w_meth {E : XK} (q : ta σ H fun x H1 => ∃ a dx fs, x = .ref a ∧ H1 a = some (.ins C dx fs) ∧ fs.lookup m = none ∧ t σ H1 fun vs H2 => sp (x :: (vs ++ dvs)) H2 Q E) : tMeth C m sp dvs E ta t σ H Q := q
theorem w_methAt {P : Prop} (h : H a = some (.ins C dx fs)) (l : fs.lookup m = none) (q : P) : ∃ a' dx' fs', V.ref a = .ref a' ∧ H a' = some (.ins C dx' fs') ∧ fs'.lookup m = none ∧ P := ⟨a, dx, fs, rfl, h, l, q⟩
theorem w_prop {E : XK} (q : ta σ H fun x H1 => ∃ a dx fs, x = .ref a ∧ H1 a = some (.ins C dx fs) ∧ sp (.ref a :: dvs) H1 Q E) : tProp C sp dvs E ta σ H Q := q
theorem w_propAt {P : Addr → Prop} (h : H a = some (.ins C dx fs)) (q : P a) : ∃ a' dx' fs', V.ref a = .ref a' ∧ H a' = some (.ins C dx' fs') ∧ P a' := ⟨a, dx, fs, rfl, h, q⟩
theorem w_make {E : XK} (q : t σ H fun vs H1 => ∀ x dx, H1 x = none → H1 dx = none → dx ≠ x → sp (.ref x :: (vs ++ dvs)) (upd (upd H1 dx (.own x)) x (.ins C dx [])) (fun v H2 => v = .non ∧ Q (.ref x) H2) E) : tMake C sp dvs E t σ H Q := q
theorem w_dget {td ty : TE} (q : td σ H fun x H1 => ty σ H1 fun y H2 => ∃ a v, x = .ref a ∧ DGet H2 a y (some v) ∧ Q v H2) : tDGet td ty σ H Q := q
theorem w_din {td ty : TE} (q : ty σ H fun y H1 => td σ H1 fun x H2 => ∃ a o, x = .ref a ∧ DGet H2 a y o ∧ Q (.bl o.isSome) H2) : tDIn ty td σ H Q := q
theorem w_dnotin {td ty : TE} (q : ty σ H fun y H1 => td σ H1 fun x H2 => ∃ a o, x = .ref a ∧ DGet H2 a y o ∧ Q (.bl (!o.isSome)) H2) : tDNotIn ty td σ H Q := q
theorem w_dput {td ty : TE} (q : tv σ H fun v H1 => td σ H1 fun x H2 => ty σ H2 fun y H3 => ∃ a H4, x = .ref a ∧ DPut H3 a y v H4 ∧ D.nx σ H4) : sDPut td ty tv D σ H := q
theorem w_seqD {td ty : TE} (q : sDPut td ty tv { D with nx := u D } σ H) : tSeq (sDPut td ty tv) u D σ H := q
theorem w_gTup {n : Nat} {tg : TGs} {xs : List V} {R : L2.St → Hp → Prop} (h : H a = some (.tup xs)) (l : xs.length = n) (q : tg xs σ H R) : gTup K n tg (.ref a) σ H R := ⟨a, xs, rfl, SqT.of h, l, q⟩
theorem w_gCons {g : TG} {gs : TGs} {r : List V} {R : L2.St → Hp → Prop} (q : g v σ H fun σ' H' => gs r σ' H' R) : gCons g gs (v :: r) σ H R := ⟨v, r, rfl, q⟩
theorem w_gNil {R : L2.St → Hp → Prop} (q : R σ H) : gNil [] σ H R := ⟨rfl, q⟩
theorem putF_one {fs : List (Str × V)} : putF f v [] = [(f, v)] := rfl
end
theorem same_two {H : Hp} {x dx : Addr} {o u : HO} (h1 : H x = none) (h2 : H dx = none) : Same H (upd (upd H dx o) x u) := fun b w hb => by
  rw [upd_ne (ne_of_none hb h1), upd_ne (ne_of_none hb h2)]
  exact hb
/-- a walk over fixed items, each in a new pair -/
theorem for_itw {S : Hp → Prop} {xs : List V} {g : TG} {tb : TS} {D : Ends} {σ : L2.St} {H : Hp} (Pv : Nat → L2.St → Hp → Prop) (h0 : Pv 0 σ H) (hS : ∀ i σ H, Pv i σ H → S H)
    (hs : ∀ i x T σ H, xs[i]? = some x → Pv i σ H → H T = none → g (.ref T) σ (upd H T (.tup [.int (i : Nat), x])) fun σ2 H2 => tb { D with nx := Pv (i + 1), ct := Pv (i + 1), bk := D.nx } σ2 H2)
    (hd : ∀ σ H, Pv xs.length σ H → D.nx σ H) :
    ∃ W : Nat → Nat → L2.St → Hp → Prop, (∃ m, W 0 m σ H) ∧ ∀ i m σ H, W i m σ H →
      ((Itw S xs).stop i H ∧ D.nx σ H) ∨ ((Itw S xs).go i H ∧ ∃ N : L2.St → Hp → Prop, (∀ σ' H', N σ' H' → ∃ m', m' < m ∧ W (i + 1) m' σ' H') ∧ ∀ x H', (Itw S xs).yld i H x H' → g x σ H' fun σ2 H2 => tb { D with nx := N, ct := N, bk := D.nx } σ2 H2) := by
  refine ⟨fun i m σ H => m = xs.length - i ∧ i ≤ xs.length ∧ Pv i σ H, ⟨xs.length, by simp, Nat.zero_le _, h0⟩, ?_⟩
  rintro i m σ H ⟨rfl, hi, p⟩
  by_cases hlt : i < xs.length
  · refine .inr ⟨⟨hS i σ H p, hlt⟩, Pv (i + 1), fun σ' H' p' => ⟨xs.length - (i + 1), by omega, rfl, hlt, p'⟩, fun x H' y => ?_⟩
    obtain ⟨T, x', rfl, hT, hx, rfl⟩ := y
    exact hs i x' T σ H hx p hT
  · have e : i = xs.length := by omega
    subst e
    exact .inl ⟨⟨hS _ σ H p, Nat.le_refl _⟩, hd σ H p⟩
/-- {k: v for i, x in enumerate(list)} -/
theorem dc_ite {K : PySem.W.Frag} {a : Addr} {xs : List V} {g : TG} {tt : TT} {tk tv : TE} {vs : List Nat} {σ : L2.St} {H1 : Hp} {D : Addr} {Qd : Hp → Prop} (Pv : Nat → Hp → Prop) (h0 : Pv 0 (upd H1 D (.dK []))) (hl : ∀ i H, Pv i H → SqL K H a xs)
    (hs : ∀ i x T H, xs[i]? = some x → Pv i H → H T = none → g (.ref T) (wipe σ vs) (upd H T (.tup [.int (i : Nat), x])) fun σ2 H2 => wipe σ2 vs = wipe σ vs ∧ tt σ2 H2 fun b H3 =>
      if b = true then tk σ2 H3 fun y H4 => tv σ2 H4 fun z H5 => ∃ kvs k, y = kV k ∧ H5 D = some (.dK kvs) ∧ kvs.length < sizeLine ∧ Pv (i + 1) (upd H5 D (.dK (putK kvs k z))) else Pv (i + 1) H3) (hd : ∀ H, Pv xs.length H → Qd H) :
    ∃ W : Nat → Nat → Hp → Prop, (∃ m, W 0 m (upd H1 D (.dK []))) ∧ ∀ i m H, W i m H →
      ((Ite K a).stop i H ∧ Qd H) ∨ ((Ite K a).go i H ∧ ∃ Nx : Hp → Prop, (∀ H', Nx H' → ∃ m', m' < m ∧ W (i + 1) m' H') ∧ ∀ x H', (Ite K a).yld i H x H' → g x (wipe σ vs) H' fun σ2 H2 => wipe σ2 vs = wipe σ vs ∧ tt σ2 H2 fun b H3 =>
        if b = true then tk σ2 H3 fun y H4 => tv σ2 H4 fun z H5 => ∃ kvs k, y = kV k ∧ H5 D = some (.dK kvs) ∧ kvs.length < sizeLine ∧ Nx (upd H5 D (.dK (putK kvs k z))) else Nx H3) := by
  refine ⟨fun i m H => m = xs.length - i ∧ i ≤ xs.length ∧ Pv i H, ⟨xs.length, by simp, Nat.zero_le _, h0⟩, ?_⟩
  rintro i m H ⟨rfl, hi, p⟩
  have q := hl i H p
  by_cases hlt : i < xs.length
  · refine .inr ⟨⟨xs, xs[i], q, List.getElem?_eq_getElem hlt⟩, Pv (i + 1), fun H' p' => ⟨xs.length - (i + 1), by omega, rfl, hlt, p'⟩, fun x H' y => ?_⟩
    obtain ⟨T, x', rfl, hT, rfl, hx⟩ := y
    exact hs i x' T H (hx xs q) p hT
  · have e : i = xs.length := by omega
    subst e
    exact .inl ⟨⟨xs, q, Nat.le_refl _⟩, hd H p⟩
/-- a class by its name -/
theorem pe_gc {X : Cx} {x : Str} {C : Addr} {pos : Pos} (hg : Gl X x) (h : X.mg x = some (.ref C)) (hd : (x == ("__debug__" : Str)) = false := by decide) : PE X (.Name x pos) (tC (.ref C)) :=
  pe_gv hg ⟨_, h, rfl⟩ hd
/-- one of two rules -/
def tTwo (t u : TE) : TE := fun σ H Q => t σ H Q ∨ u σ H Q
def iTwo (t u : TI) : TI := fun σ H R => t σ H R ∨ u σ H R
theorem pe_two {X : Cx} {e : Expr} {t u : TE} (h1 : PE X e t) (h2 : PE X e u) : PE X e (tTwo t u) := ⟨fun pins s σ H Q I q => q.elim (fun q => h1.run pins s σ H Q I q) fun q => h2.run pins s σ H Q I q⟩
theorem pi_two {X : Cx} {tg e : Expr} {t u : TI} (h1 : PI X tg e t) (h2 : PI X tg e u) : PI X tg e (iTwo t u) := ⟨fun pins s σ H R I q => q.elim (fun q => h1.run pins s σ H R I q) fun q => h2.run pins s σ H R I q⟩
/-! ## an instance called with keywords; str(o) of an own instance; f-strings -/
section
variable (P : Program) (w : World) (K : PySem.W.Frag) (mg : Str → Option Value) (base : Heap)
/-- the def at f, called with the instance and the keywords ks -/
structure FrN (k : Nat) (f : Addr) (ps ks : List Str) (sp : Sp) : Prop where
  ex : ∃ fd : FuncData, FnOk P w K mg base CX0 k f fd ps sp ∧ ∀ (s : Shared) (self : Value) (ws : List Value), K.In s.heap → ws.length = ks.length → BindsTo s fd ⟨[self], ks.zip ws⟩ (ps.zip (self :: ws))
end
theorem frn_of {P : Program} {w : World} {K : PySem.W.Frag} {mg : Str → Option Value} {base : Heap} {x q : Str} {st : Stmt} {ps ks N : List Str} {sp : Sp} {k : Nat} {f : Addr} (F : FA K x q st [] f)
    (hb : ∀ (kV doc pm : Value) (an : Option Addr) (cdv ct self : Value) (ws : List Value), ws.length = ks.length → bindArgs (PySem.W.fnOf x q (defArgs st) (defBody st) (defScope st) .none kV doc pm an cdv ct) ⟨[self], ks.zip ws⟩ = pure (ps.zip (self :: ws)))
    (S : FnScope N ps (defScope st)) (len : ∀ vs H Q E, sp vs H Q E → vs.length = ps.length) (hbody : BodyOk P w K mg base k q st N sp) : FrN P w K mg base (k + 1) f ps ks sp := by
  obtain ⟨fd, F⟩ := F
  have ok := F.ok S len fun cdv A outer s H vs Q E hr h => hbody f cdv A outer s H vs Q E hr h
  obtain ⟨oc, od, dV, kV, doc, pm, an, cdv, ct, osl, rfl, lk, hcd, hD, hK⟩ := F.ex
  rcases hD with ⟨_, rfl⟩ | ⟨e, _⟩
  · exact ⟨_, ok, fun s self ws _ hl => .of_eq (hb kV doc pm an cdv ct self ws hl)⟩
  · exact absurd rfl e
theorem pe_cN {X : Cx} {k j : Nat} {f C : Addr} {ps ks : List Str} {sp : Sp} {pos : Pos} {o : Expr} {ta : TE} {tk : TA} {kws : List Keyword} (c : FrN X.prog X.w X.K X.mg X.base k f ps ks sp) (cl : CallOf X.K C f) (hr : Room j X.A) (hk : k ≤ j) (he : PE X o ta) (hkw : PK X kws tk)
    (hall : (backToKw pos (keywordEach kws X.env)).all (·.1.isSome) = true := by rfl) (hks : (backToKw pos (keywordEach kws X.env)).filterMap (·.1) = ks := by rfl)
    (ht : eval (.Call o [] kws pos) X.env = (eval o X.env >>= fun fn => callWith pos fn [] (backTo pos (starEach [] X.env)) (backToKw pos (keywordEach kws X.env))) := by rfl)
    (hpl : ((backTo pos (starEach [] X.env)).any (·.1) || (backToKw pos (keywordEach kws X.env)).any (·.1.isNone)) = false := by rfl) : PE X (.Call o [] kws pos) (tInstN C ks.length sp (fun zs => zs) ta tk) := by
  obtain ⟨fd, ok, hb⟩ := c.ex
  exact pe_ciN (g := fun ws => ws) (gV := fun zs => zs) ok cl hr hk he hkw hb (fun r => r) hall hks ht hpl
/-- the same def at a smaller promise -/
theorem FrN.lev {P : Program} {w : World} {K : PySem.W.Frag} {mg : Str → Option Value} {base : Heap} {k j : Nat} {f : Addr} {ps ks : List Str} {sp : Sp} (F : FrN P w K mg base k f ps ks sp) (h : k ≤ j) : FrN P w K mg base j f ps ks sp := by
  obtain ⟨fd, ok, b⟩ := F.ex
  exact ⟨fd, ⟨ok.len, fun A outer s H args us vs Q E hr e0 hb r q => ok.run A outer s H args us vs Q E (hr.mono h) e0 hb r q⟩, b⟩
/-! ### str(o), o an instance with its own __str__ -/
theorem cl_strObj {X : Cx} {k j : Nat} {f C : Addr} {sp : Sp} (c : Fr X.prog X.w X.K X.mg X.base k f ["self"] [] sp) (b : StrBy X.K C f) (hr : Room j X.A) (hk : k + 2 ≤ j) :
    CallR X (.type "str") (fun xs H Q => ∃ a dx fs, xs = [.ref a] ∧ H a = some (.ins C dx fs) ∧ sp [.ref a] H (fun v H' => ∃ z, v = .str z ∧ Q v H') E0) := by
  intro pins s σ H xs us Q I r h
  obtain ⟨a, dx, fs, rfl, ha, q⟩ := h
  obtain ⟨u, rfl, ru⟩ := vals1 r
  obtain rfl : u = Value.ref a := ru
  obtain ⟨fd, ds, ok, bd, v⟩ := c.ex
  cases v
  obtain ⟨mA, O, _, _, _, _⟩ := ins_get I.hok ha
  obtain ⟨od, J, _⟩ := O.look
  have hr2 : Room k X.A.in1.in1 := (show Room (k + 1 + 1) X.A from hr.mono hk).in1.in1
  refine PySem.W.kso_call hr2.units0 I.kIn J b.at_ b.fn ?_
  refine wpAny_call (codeAny_mono (ok.run X.A.in1.in1 X.stack s H ⟨[.ref a], []⟩ [.ref a] [.ref a] _ E0 hr2 I.env0.in1.in1 (bd s [.ref a] I.kIn rfl) (.cons rfl .nil) q) fun r s' hq => ?_)
  cases r with
  | error e => exact False.elim hq
  | ok fl =>
    cases fl with
    | ret u =>
      obtain ⟨v, H', I', rv, z, rfl, q'⟩ := I.after hq
      obtain ⟨t, rfl⟩ := rv
      exact ⟨.str z, H', I', ⟨t, rfl⟩, q'⟩
    | next => exact False.elim hq
    | brk => exact False.elim hq
    | cont => exact False.elim hq

/-- f'..' of some parts -/
def tJoined (ts : List TE) : TE := fun σ H Q => tJs ts Str.empty σ H fun out H1 => Q (.str out) H1
theorem pe_joinedT {X : Cx} {v1 v2 : Expr} {rest : List Expr} {ts : List TE} {pos : Pos} (h : PJ X (v1 :: v2 :: rest) ts) : PE X (.JoinedStr (v1 :: v2 :: rest) pos) (tJoined ts) := pe_joined h
section
variable {σ : L2.St} {H : Hp} {Q : VK} {ta : TE} {t tk : TA} {C : Addr} {sp : Sp} {dvs : List V} {gV : List V → List V} {n : Nat}
theorem w_inst (q : ta σ H fun x H1 => ∃ a, x = .ref a ∧ t σ H1 fun vs H2 => (∃ dx fs, H2 a = some (.ins C dx fs)) ∧ sp (.ref a :: (vs ++ dvs)) H2 Q E0) : tInst C sp dvs ta t σ H Q := q
theorem w_instN (q : ta σ H fun x H1 => ∃ a, x = .ref a ∧ tk σ H1 fun zs H2 => zs.length = n ∧ (∃ dx fs, H2 a = some (.ins C dx fs)) ∧ sp (.ref a :: gV zs) H2 Q E0) : tInstN C n sp gV ta tk σ H Q := q
theorem w_instAt {a : Addr} {P : Addr → Prop} (q : P a) : ∃ a', V.ref a = .ref a' ∧ P a' := ⟨a, rfl, q⟩
theorem w_joined {ts : List TE} (q : tJs ts Str.empty σ H fun out H1 => Q (.str out) H1) : tJoined ts σ H Q := q
theorem w_js {t : TE} {ts : List TE} {acc : Str} {R : Str → Hp → Prop} (q : t σ H fun x H1 => ∃ y : Str, x = .str y ∧ (acc ++ y).length ≤ sizeLine ∧ tJs ts (acc ++ y) σ H1 R) : tJs (t :: ts) acc σ H R := q
theorem w_js0 {acc : Str} {R : Str → Hp → Prop} (q : R acc H) : tJs [] acc σ H R := q
theorem w_jsAt {acc y : Str} {P : Str → Prop} (h : (acc ++ y).length ≤ sizeLine) (q : P y) : ∃ z : Str, V.str y = .str z ∧ (acc ++ z).length ≤ sizeLine ∧ P z := ⟨y, rfl, h, q⟩
theorem w_fmt {te : TE} (q : te σ H fun x H1 => (∃ y : Str, x = .str y ∧ y.length ≤ sizeLine ∧ Q (.str y) H1) ∨ ∃ i : Int, x = .int i ∧ i.natAbs.log2 < 1920 ∧ Q (.str (toString i)) H1) : tFmt te σ H Q := q
theorem w_fmtS {y : Str} {B : Prop} (h : y.length ≤ sizeLine) (q : Q (.str y) H) : (∃ z : Str, V.str y = .str z ∧ z.length ≤ sizeLine ∧ Q (.str z) H) ∨ B := .inl ⟨y, rfl, h, q⟩
theorem w_fmtI {i : Int} {B : Prop} (h : i.natAbs.log2 < 1920) (q : Q (.str (toString i)) H) : B ∨ ∃ z : Int, V.int i = .int z ∧ z.natAbs.log2 < 1920 ∧ Q (.str (toString z)) H := .inr ⟨i, rfl, h, q⟩
end
/-- {o} in an f-string: C's instances are told by the def at f -/
structure FmtBy (K : PySem.W.Frag) (C f : Addr) : Prop where
  at_ : PySem.W.findIn K (.ref C) "__str__" = some (some (.ref f))
  fn : PySem.W.isFn K (.ref f) = true
  fm : PySem.W.findIn K (.ref C) "__format__" = some (some (.builtin "object.__format__"))
  mro : PySem.W.mroIn K C (.type "object") = some true
def tFmtO (C : Addr) (sp : Sp) (te : TE) : TE := fun σ H Q => te σ H fun x H1 => ∃ a dx fs, x = .ref a ∧ H1 a = some (.ins C dx fs) ∧ sp [.ref a] H1 (fun v H' => ∃ z, v = .str z ∧ Q v H') E0
theorem pe_fmtO {X : Cx} {k j : Nat} {f C : Addr} {sp : Sp} {e : Expr} {te : TE} {pos : Pos} (c : Fr X.prog X.w X.K X.mg X.base k f ["self"] [] sp) (b : FmtBy X.K C f) (hr : Room j X.A) (hk : k + 1 ≤ j) (he : PE X e te) : PE X (.FormattedValue e (-1) none pos) (tFmtO C sp te) := by
  refine ⟨fun pins s σ H Q I h => ?_⟩
  refine wpAny_FormattedValue_plain (thn (he.run pins s σ H _ I h) fun u s1 hv => ?_)
  obtain ⟨x, H1, I1, ru, a, dx, fs, rfl, ha, q⟩ := hv
  obtain rfl : u = Value.ref a := ru
  obtain ⟨fd, ds, ok, bd, v⟩ := c.ex
  cases v
  obtain ⟨mA, O, _, _, _, _⟩ := ins_get I1.hok ha
  obtain ⟨od, J, _⟩ := O.look
  have hr2 : Room k X.A.in1 := (show Room (k + 1) X.A from hr.mono hk).in1
  have I2 := I1.tok (s1.toks + 1)
  refine PySem.W.kfo_fieldS hr2.units0 I1.kIn J b.fm b.mro b.at_ b.fn ?_
  refine wpAny_call (codeAny_mono (ok.run X.A.in1 X.stack _ H1 ⟨[.ref a], []⟩ [.ref a] [.ref a] _ E0 hr2 I2.env0.in1 (bd _ [.ref a] I2.kIn rfl) (.cons rfl .nil) q) fun r s' hq => ?_)
  cases r with
  | error e => exact False.elim hq
  | ok fl =>
    cases fl with
    | ret u =>
      obtain ⟨v, H', I', rv, z, rfl, q'⟩ := I2.after hq
      obtain ⟨t, rfl⟩ := rv
      exact ⟨.str z, H', I', ⟨t, rfl⟩, q'⟩
    | next => exact False.elim hq
    | brk => exact False.elim hq
    | cont => exact False.elim hq
theorem w_fmtO {σ : L2.St} {H : Hp} {Q : VK} {C : Addr} {sp : Sp} {te : TE} (q : te σ H fun x H1 => ∃ a dx fs, x = .ref a ∧ H1 a = some (.ins C dx fs) ∧ sp [.ref a] H1 (fun v H' => ∃ z, v = .str z ∧ Q v H') E0) : tFmtO C sp te σ H Q := q
end LB
set_option Elab.async false
set_option linter.all false
set_option maxRecDepth 100000
set_option maxHeartbeats 4000000
namespace LB
open PySem PySem.Spec PyProof.Rows L2
/-! ## the law's own def where nothing is being shown (no guards): repr of lists and tuples -/
/-- a def's promise, called where no container is being shown -/
structure FnG (P : Program) (w : World) (K : PySem.W.Frag) (mg : Str → Option Value) (base : Heap) (CX : CXT) (k : Nat) (f : Addr) (fd : FuncData) (ps : List Str) (sp : Sp) : Prop where
  len : ∀ vs H Q E, sp vs H Q E → vs.length = ps.length
  run : ∀ (A : Around) (fr : List Env) (s : Shared) (H : Hp) (as : Args) (us : List Value) (vs : List V) (Q : VK) (E : XK), A.guards = some [] → Room k A → Env0 P w K mg base A fr s H → BindsTo s fd as (ps.zip us) → Vals vs us → sp vs H Q E → codeAny (model P w) A (.call (.ref f) as) (CR CX fr P w H s Q E) s
section
variable {CX : CXT} {P : Program} {w : World} {K : PySem.W.Frag} {mg : Str → Option Value} {base : Heap} {k : Nat} {f : Addr} {nm qn : Str} {ar : Arguments} {body : List Stmt} {sc : Scope} {N ps : List Str} {sp : Sp}
theorem fnG_of {dV kV doc pm cdv ct oc : Value} {an od : Option Addr} {osl : Array (Option Value)} (lk : K.lookup f = some ⟨oc, od, .func (PySem.W.fnOf nm qn ar body sc dV kV doc pm an cdv ct), osl⟩) (hcd : PySem.W.codeIn K cdv qn = true) (S : FnScope N ps sc)
    (len : ∀ vs H Q E, sp vs H Q E → vs.length = ps.length)
    (hb : ∀ (A : Around) (fr : List Env) (s : Shared) (H : Hp) (vs : List V) (Q : VK) (E : XK), (A.deeper (envOfC qn sc s.heap.objs.size f cdv)).guards = some [] → Room k (A.deeper (envOfC qn sc s.heap.objs.size f cdv)) → sp vs H Q E →
      ∃ t, PSs (cxOf CX P w K mg base N qn sc f cdv A fr s H E) body t ∧ t { nx := fun _ H' => Q .non H', rt := Q } (start N vs) H) : FnG P w K mg base CX (k + 1) f (PySem.W.fnOf nm qn ar body sc dV kV doc pm an cdv ct) ps sp := by
  constructor
  · exact len
  · intro A fr s H as us vs Q E g room env bind vals ask
    have keep : ∀ b o, base.get? b = some o → s.heap.get? b = some o := fun b o e => (env.bs b o e).1
    have inK : K.In s.heap := env.mod.kin.keeps keep
    have kinds : ∀ y ∈ ps.zip us, sc.names.lookup y.1 = some .local ∨ (sc.names.lookup y.1 = some .cell ∧ ((cellsFrom (s.heap.objs.size + 1) sc.names []).lookup y.1).isSome = true) := by
      intro y hy
      obtain ⟨n, v⟩ := y
      exact (S.par n (List.of_mem_zip hy).1).elim (fun q => .inl q) fun q => .inr ⟨q, PySem.W.cellsFrom_some _ _ _ (.inl q)⟩
    refine codeAny_call_function room.depth (inK _ _ lk) rfl S.co S.gen rfl (PySem.W.codeRec_of inK hcd) (bind _ _ _ _ (wpAny_newFunctionEnv_cells S.kind kinds fun env' he s1 x => ?_))
    subst he
    refine ⟨(env.mod.nolimit.keeps keep).keeps x.toInCall.keep, codeAny_func ?_⟩
    obtain ⟨t, ht, hq⟩ := hb A fr s H vs Q E g (room.deeper _) ask
    have I := inv_start (CX := CX) (N := N) (E := E) S room.hd env (len _ _ _ _ ask) vals x
    refine wpAny_mono (ht.run [] s1 (start N vs) H _ I hq) (fun fl s' z => ?_) fun e s' z => z
    match fl, z with
    | .ret u, ⟨v, σ', H', J, rv, q⟩ => exact ⟨v, H', J.os, J.bare, J.base, J.hok, rv, q⟩
    | .next, ⟨σ', H', J, q⟩ => exact ⟨V.non, H', J.os, J.bare, J.base, J.hok, rfl, q⟩
    | .brk, ⟨_, _, _, q⟩ => exact False.elim q
    | .cont, ⟨_, _, _, q⟩ => exact False.elim q
end
/-- repr of data at any depth -/
theorem cl_reprD {X : Cx} (g : X.A.guards = some []) (hu : X.A.units + 64 < cLine) : CallR X (.builtin "repr") (fun xs H Q => ∃ a d, xs = [.ref a] ∧ Dp X.K H (.ref a) d ∧ d.showable = true ∧ d.hasDict = false ∧ d.depth ≤ 60 ∧ d.shown.length ≤ sizeLine ∧ Q (.str d.shown) H) := by
  intro pins s σ H xs us Q I r h
  obtain ⟨a, d, rfl, hd, h1, h2, h3, h4, q⟩ := h
  obtain ⟨u, rfl, ru⟩ := vals1 r
  obtain rfl : u = Value.ref a := ru
  obtain ⟨as, rd⟩ := Dp.reads I d _ _ hd rfl
  refine repr_of_reads' rd h1 (fun z => by rw [h2] at z; cases z) g (by omega) (fun _ _ z => z) (fun h' u tk keep => ⟨.str d.shown, H, I.kept (t' := tk) keep, ⟨u, rfl⟩, q⟩) h4
/-! the law called by the judge -/
section
variable {P : Program} {w : World} {K : PySem.W.Frag} {mg mb : Str → Option Value} {k : Nat} {fa a : Addr} {fd : FuncData} {x : Str} {sp : Sp} {t : Shared} {vs : List Value} {ns : List Int} {H : Hp}
theorem base_env (KX : K.In t.heap) (hns : t.heap.Ns mainGlobals mg) (hb : t.heap.Ns builtinsNs mb) (hbb : ∀ x : Str, x ≠ "__name__" → mb x = bootBuiltins x) (hlim : t.heap.NoLimit) (hg : t.gens = #[]) (ha : t.heap.get? a = some { cls := .type "list", data := .seq vs.toArray })
    (hA : ∀ b u, H b = some u → b = a) (hK : ∀ u, H a = some u → K.lookup a = none) (hok : HOk P w H t.heap) : K.In (hidT t.heap H) ∧ (hidT t.heap H).Ns mainGlobals mg ∧ Env0 P w K mg (hidT t.heap H) callerA [] t H := by
  have free : ∀ b, (∀ u, H b = some u → False) → H b = none := fun b h => Option.eq_none_iff_forall_ne_some.mpr fun u e => h u e
  have seen : ∀ {b : Addr} {m : Str → Option Value}, t.heap.Ns b m → (hidT t.heap H).Ns b m := by
    rintro b m ⟨o, es, ep, e, d, r⟩
    refine ⟨o, es, ep, hidT_get e (free b fun u hu => ?_), d, r⟩
    rw [hA b u hu, ha] at e
    cases e
    cases (show Data.seq vs.toArray _ = Data.dict es ep from d)
  have inK : K.In (hidT t.heap H) := fun b o e => hidT_get (KX b o e) (free b fun u hu => by
    obtain rfl := hA b u hu
    rw [hK u hu] at e
    cases e)
  obtain ⟨mc, l1, l2⟩ := hlim
  exact ⟨inK, seen hns, { frames := rfl, mod := ⟨inK, seen hns, ⟨mb, seen hb, hbb⟩, mc, seen l1, l2⟩, bs := fun b o e => of_hidT e, bsz := Nat.le_of_eq (hidT_size _ _), funs := trivial, frf := fun b z => (nomatch (show b ∈ ([] : List Addr) from z)), hok := hok, bare := .of_eq hg }⟩
/-- what the judge wants, from the promise at one abstract heap -/
theorem call_at (KX : K.In t.heap) (hns : t.heap.Ns mainGlobals mg) (hb : t.heap.Ns builtinsNs mb) (hbb : ∀ x : Str, x ≠ "__name__" → mb x = bootBuiltins x) (hlim : t.heap.NoLimit) (hg : t.gens = #[]) (ha : t.heap.get? a = some { cls := .type "list", data := .seq vs.toArray }) (hr : Room k callerA)
    (F : ∀ base : Heap, K.In base → base.Ns mainGlobals mg → FnG P w K mg base CX0 k fa fd [x] sp) (bind : ∀ (s : Shared) (u : Value), BindsTo s fd ⟨[u], []⟩ [(x, u)]) (hO : Only H)
    (hA : ∀ b u, H b = some u → b = a) (hK : ∀ u, H a = some u → K.lookup a = none) (hok : HOk P w H t.heap) (hsp : sp [.ref a] H (fun v _ => v = .bl true) fun _ _ _ => False) :
    codeAny (model P w) callerA (.call (.ref fa) ⟨[.ref a], []⟩) (fun r s' => r = .ok (.ret (.bool true)) ∧ OldK t.heap s'.heap ∧ s'.os = t.os ∧ AllBare s'.gens) t := by
  obtain ⟨inK, g, env⟩ := base_env KX hns hb hbb hlim hg ha hA hK hok
  have got := (F _ inK g).run callerA [] t H ⟨[.ref a], []⟩ [.ref a] [.ref a] (fun v _ => v = .bl true) (fun _ _ _ => False) rfl hr env (bind t (.ref a)) (.cons (show RelV (.ref a) (Value.ref a) from rfl) .nil) hsp
  refine codeAny_mono got fun r s' z => ?_
  match r, z with
  | .error e, z => exact False.elim (show False from z)
  | .ok .next, z => exact False.elim z
  | .ok .brk, z => exact False.elim z
  | .ok .cont, z => exact False.elim z
  | .ok (.ret u), ⟨v, H', os, bare, un, ok2, rv, q⟩ =>
    obtain rfl : v = .bl true := q
    obtain rfl : u = Value.bool true := rv
    refine ⟨rfl, .of_keep fun b o e => ?_, os, bare⟩
    rcases hO b with z | ⟨ob, xs, z⟩
    · exact un.keep b o e z (fun y => nomatch (show b ∈ ([] : List Addr) from y)) (by simp)
    · have old := (hok b _ z).1
      have new := (ok2 b _ (un.frzs b ob _ z)).1
      rw [e] at old
      cases old
      exact new
theorem law_callG (KX : K.In t.heap) (hns : t.heap.Ns mainGlobals mg) (hb : t.heap.Ns builtinsNs mb) (hbb : ∀ x : Str, x ≠ "__name__" → mb x = bootBuiltins x) (hlim : t.heap.NoLimit) (hg : t.gens = #[]) (ha : t.heap.get? a = some { cls := .type "list", data := .seq vs.toArray }) (hi : IntsAre vs ns) (hl : ns.length ≤ sizeLine) (hr : Room k callerA)
    (F : ∀ base : Heap, K.In base → base.Ns mainGlobals mg → FnG P w K mg base CX0 k fa fd [x] sp) (bind : ∀ (s : Shared) (u : Value), BindsTo s fd ⟨[u], []⟩ [(x, u)])
    (hsp : ∀ H : Hp, Only H → SqL K H a (ns.map V.int) → sp [.ref a] H (fun v _ => v = .bl true) fun _ _ _ => False) :
    codeAny (model P w) callerA (.call (.ref fa) ⟨[.ref a], []⟩) (fun r s' => r = .ok (.ret (.bool true)) ∧ OldK t.heap s'.heap ∧ s'.os = t.os ∧ AllBare s'.gens) t := by
  have vi := vals_ints hi
  have lv := hi.length
  cases hk : K.lookup a with
  | some o =>
    have e := KX a o hk
    rw [ha] at e
    cases e
    have none_ : ∀ u : HO, (none : Option HO) = some u → False := fun u z => nomatch z
    exact call_at (H := fun _ => none) KX hns hb hbb hlim hg ha hr F bind (fun _ => .inl rfl) (fun b u z => (none_ u z).elim) (fun u z => (none_ u z).elim) (fun b u z => (none_ u z).elim)
      (hsp _ (fun _ => .inl rfl) (.inr ⟨_, vs.toArray, _, hk, rfl, rfl, rfl, by rw [List.size_toArray, lv]; exact hl, by simpa using vi⟩))
  | none =>
    let G : Hp := fun b => if b = a then some (.frz { cls := .type "list", data := .seq vs.toArray } (.lst (ns.map V.int))) else none
    have at_a : ∀ b u, G b = some u → b = a ∧ u = .frz { cls := .type "list", data := .seq vs.toArray } (.lst (ns.map V.int)) := by
      intro b u z
      by_cases c : b = a
      · exact ⟨c, (Option.some.inj ((if_pos c).symm.trans z)).symm⟩
      · exact nomatch (if_neg c).symm.trans z
    have only : Only G := fun b => by
      by_cases c : b = a
      · exact .inr ⟨_, _, if_pos c⟩
      · exact .inl (if_neg c)
    refine call_at (H := G) KX hns hb hbb hlim hg ha hr F bind only (fun b u z => (at_a b u z).1) (fun u _ => hk) (fun b u z => ?_) (hsp G only (.inl (.inr ⟨_, if_pos rfl⟩)))
    obtain ⟨rfl, rfl⟩ := at_a b u z
    exact ⟨ha, by rw [List.length_map]; exact hl, vs, _, vi, ha⟩
end
theorem walk_G {l : PySem.W.OpenLaw} {n k : Nat} {q : Program} {loose : List Str} {XP : (Str → Option Value) → Heap → Prop} {YP : World → Heap → Prop} {d : DefRec} {x : Str} (hn : l.most = some n) (hn2 : n ≤ sizeLine) (hdf : d.params.defaults = []) (hr : Room k callerA)
    (F : ∀ (w : World) (mg : Str → Option Value) (fa : Addr) (h : Heap), YP w h → h.Ns mainGlobals mg → mg d.name = some (.ref fa) → ∃ (K : PySem.W.Frag) (fd : FuncData) (sp : Sp), K.In h ∧ (∀ (s : Shared) (u : Value), BindsTo s fd ⟨[u], []⟩ [(x, u)]) ∧
      (∀ (H : Hp) (a : Addr) (ns : List Int), ns.length ≤ n → Only H → SqL K H a (ns.map V.int) → sp [.ref a] H (fun v _ => v = .bl true) fun _ _ _ => False) ∧ ∀ base : Heap, K.In base → base.Ns mainGlobals mg → FnG l.prog w K mg base CX0 k fa fd [x] sp) :
    PySem.W.WalkO q loose XP YP l.row.toRowW d [] (fun f vs => PySem.call f vs) := by
  refine Att.attach_call hn hdf fun w s₀ t mg mb fa o pm cd doc a vs ns G Y ho hd hcd hmg hobj hints hlen hg => ?_
  obtain ⟨K, fd, sp, inK, bind, ask, fn⟩ := F w mg fa _ Y G.T.g hmg
  exact law_callG inK G.T.g G.T.b G.T.builtins G.T.nolimit hg hobj hints (Nat.le_trans hlen hn2) hr fn bind fun H hO hS => ask H a ns hlen hO hS
theorem w_seqP3 {D : Ends} {σ : L2.St} {H : Hp} {u : TS} {i j l : Nat} {ts : TA} (q : tPar3 i j l ts { D with nx := u D } σ H) : tSeq (tPar3 i j l ts) u D σ H := q
theorem w_par3 {D : Ends} {σ : L2.St} {H : Hp} {i j l : Nat} {ts : TA} (q : ts σ H fun vs H1 => ∃ u v w, vs = [u, v, w] ∧ gName i u σ H1 fun σ1 H2 => gName j v σ1 H2 fun σ2 H3 => gName l w σ2 H3 D.nx) : tPar3 i j l ts D σ H := q
theorem w_three {x y z : V} {P : V → V → V → Prop} (q : P x y z) : ∃ u v w, [x, y, z] = [u, v, w] ∧ P u v w := ⟨x, y, z, rfl, q⟩
end LB

namespace LB
open PySem PySem.Spec PyProof.Rows L2
/-! ### the stepping word -/
local macro_rules | `(tactic| walk_at "hp") => `(tactic| first
  | assumption
  | with_reducible exact upd_same
  | (refine Eq.trans (upd_ne ?_) ?_; (· walk_at "ne"); (· walk_at "hp")))
local macro_rules | `(tactic| walk_at "ne") => `(tactic| first
  | assumption
  | (apply Ne.symm; assumption))
local macro_rules | `(tactic| walk_at "cond") => `(tactic| first
  | assumption
  | with_reducible rfl
  | omega
  | decide
  | (refine And.intro ?_ ?_ <;> first | assumption | omega | decide)
  | (refine Or.inl (Or.inl ⟨?_, ?_⟩) <;> omega)
  | (refine Or.inl (Or.inr ⟨?_, ?_⟩) <;> omega)
  | (refine ⟨?_, ?_, ?_⟩ <;> omega))
local macro_rules | `(tactic| walk_at "len") => `(tactic| (simp only [List.length_cons, List.length_nil, List.length_append]; decide))
local macro_rules | `(tactic| walk_at "st") => `(tactic| first
  | (with_reducible first
  | refine w_seqA ?_ | refine w_seqE ?_ | refine w_seqG ?_ | refine w_seqP ?_ | refine w_par ?_ | refine w_asg ?_ | refine w_ret ?_ | refine w_ifS ?_ | refine w_drop ?_ | refine w_next ?_ | refine w_nx ?_ | refine w_rt ?_ | refine w_bk ?_ | refine w_ct ?_ | refine w_brk ?_ | refine w_cont ?_
  | refine w_op ?_ | refine w_c ?_
  | refine w_v0 ?_ | refine w_v1 ?_ | refine w_v2 ?_ | refine w_v3 ?_ | refine w_v4 ?_ | refine w_v5 ?_ | refine w_v6 ?_ | refine w_v7 ?_ | refine w_v8 ?_ | refine w_v9 ?_ | refine w_v10 ?_ | refine w_v11 ?_ | refine w_v12 ?_
  | refine w_g0 ?_ | refine w_g1 ?_ | refine w_g2 ?_ | refine w_g3 ?_ | refine w_g4 ?_ | refine w_g5 ?_ | refine w_g6 ?_ | refine w_g7 ?_ | refine w_g8 ?_ | refine w_g9 ?_ | refine w_g10 ?_ | refine w_g11 ?_ | refine w_g12 ?_
  | refine w_I0 ?_
  | refine w_cb ?_ | refine w_cons ?_ | refine w_nil ?_
  | refine w_test ?_ | refine w_B ?_ | refine w_bl ?_
  | refine w_un ?_ | refine w_U ?_ | refine w_if ?_ | refine w_andV ?_ | refine w_orV ?_ | refine w_notV ?_
  | refine w_and ?_ | refine w_or ?_ | refine w_not ?_ | refine w_chain ?_
  | refine w_lst ?_ | refine w_tup ?_ | refine w_call ?_ | refine w_callN ?_ | refine w_sl ?_ | refine w_noPart ?_ | refine w_part ?_ | refine w_int ?_ | refine w_two ?_ | refine w_retN ?_
  | refine w_int1 ?_ | refine w_int1b ?_ | refine w_abs ?_ | refine w_isN ?_ | refine w_notN ?_ | refine w_isB ?_ | refine w_isNotB ?_ | refine w_in1 ?_ | refine w_notIn1 ?_ | refine w_gSub ?_ | refine w_iStr ?_ | refine w_str ?_ | refine w_iRng1 ?_ | refine w_iRng2 ?_ | refine w_iList ?_ | refine w_iTup ?_ | refine w_for ?_)
  | ((with_reducible refine' w_ixL ?h ?e ?_); (case h => walk_at "hp"); (case e => exact rfl))
  | ((with_reducible refine' w_ixT ?h ?e ?_); (case h => walk_at "hp"); (case e => exact rfl))
  | ((with_reducible refine' w_lenL ?h ?_); (case h => walk_at "hp"))
  | ((with_reducible refine' w_lenT ?h ?_); (case h => walk_at "hp"))
  | ((with_reducible refine' w_set31 ?h ?_); (case h => walk_at "hp"))
  | ((with_reducible refine' w_set32 ?h ?_); (case h => walk_at "hp"))
  | ((with_reducible refine' w_I ?h ?_); (case h => walk_at "cond"))
  | ((with_reducible refine' w_eq ?h ?_); (case h => exact rfl))
  | ((with_reducible refine' w_ne ?h ?_); (case h => exact rfl))
  | ((with_reducible refine' w_iteT ?h ?_); (case h => exact rfl))
  | ((with_reducible refine' w_iteF ?h ?_); (case h => exact rfl))
  | ((with_reducible refine' w_lstAt ?h ?_); (case h => walk_at "hp"))
  | ((with_reducible refine' w_tupAt ?h ?_); (case h => walk_at "hp"))
  | ((with_reducible refine' w_rng1 ?h ?_); (case h => (constructor <;> omega)))
  | ((with_reducible refine' w_slS ?h ?_); (case h => first | assumption | decide +kernel))
  | ((with_reducible refine' w_lenS ?h ?_); (case h => first | assumption | decide +kernel))
  | ((with_reducible refine' w_addS ?h ?_); (case h => exact addlen (by first | assumption | decide +kernel) (by first | assumption | decide +kernel)))
  | ((with_reducible refine' w_strI ?h ?_); (case h => first | assumption | decide +kernel))
  | ((with_reducible refine' w_mulS ?h ?_); (case h => decide +kernel)))/-! ### .. with objects -/
set_option hygiene false in
local macro_rules | `(tactic| walk_at "na") => `(tactic| first
  | exact T.na_told _ | exact T.na_longest | exact T.na_manyC | exact T.na_manyS | exact T.na_letters _ | exact T.na_own _ | exact T.na_sh_setting | exact T.na_sh_is_hidden | exact T.na_sh_by_word | exact T.na_sh_by_number | exact T.na_sh_grown_now)
set_option hygiene false in
local macro_rules | `(tactic| walk_at "cl") => `(tactic| first | exact T.cl_lim _ | exact T.cl_set _ | exact T.cl_shelf)
set_option hygiene false in
local macro_rules | `(tactic| walk_at "st") => `(tactic| first
  | (with_reducible first
  | refine w_seqF ?_ | refine w_sFld ?_ | refine w_fld ?_ | refine w_con ?_ | refine w_meth ?_ | refine w_prop ?_ | refine w_make ?_ | refine w_dget ?_ | refine w_din ?_ | refine w_dnotin ?_ | refine w_dput ?_ | refine w_seqD ?_ | refine w_gCons ?_ | refine w_gNil ?_)
  | ((with_reducible refine' w_fldAt ?h ?c ?n ?l ?_); (case h => walk_at "hp"); (case c => walk_at "cl"); (case n => walk_at "na"); (case l => exact rfl))
  | ((with_reducible refine' w_sFldAt ?h ?c ?n ?l ?e ?_); (case h => walk_at "hp"); (case c => walk_at "cl"); (case n => walk_at "na"); (case l => first | decide | exact of_decide_eq_true rfl); (case e => exact rfl))
  | ((with_reducible refine' w_methAt ?h ?l ?_); (case h => walk_at "hp"); (case l => exact rfl))
  | ((with_reducible refine' w_propAt ?h ?_); (case h => walk_at "hp"))
  | ((with_reducible refine' w_gTup ?h ?l ?_); (case h => walk_at "hp"); (case l => exact rfl)))

/-! ### the classes by their names -/
inductive LimK where
  | free | short | cleared | standing
def limNm : LimK → Str
  | .free => "Free"
  | .short => "Short"
  | .cleared => "Cleared"
  | .standing => "Standing"
abbrev cLim (K : PySem.W.Frag) (k : LimK) : Addr := He.ga K (limNm k)
abbrev cSet (K : PySem.W.Frag) (h : Bool) : Addr := He.ga K (match h with | true => "Hidden" | false => "Told")
abbrev cShelf (K : PySem.W.Frag) : Addr := He.ga K "Shelf"
def setWord : Bool → Str
  | true => "hidden"
  | false => "told"
def ClsCon (K : PySem.W.Frag) (C : Addr) (f : Str) (v : V) : Prop := ∃ mc u, ClX.CRead K C mc ∧ ClX.CVal K C mc f v u
def clsConB (K : PySem.W.Frag) (C f : Str) (v : V) : Bool := match PySem.W.findCls K (.ref (He.ga K C)) (.type "type") f with
  | some (.val u) => He.relB v u && (PySem.W.readsIn K (He.ga K C) (.type "type") && He.eqO (PySem.W.specialIn K (.ref (He.ga K C)) "__getattribute__") (some (some (.builtin "type.__getattribute__"))))
  | _ => false
theorem clsCon_ok {K : PySem.W.Frag} {C f : Str} {v : V} (h : clsConB K C f v = true) : ClsCon K (He.ga K C) f v := by
  unfold clsConB at h
  split at h
  · rename_i u e
    obtain ⟨h1, h2⟩ := He.ba h
    obtain ⟨h3, h4⟩ := He.ba h2
    exact ⟨_, u, ⟨h3, He.eqO_ok h4⟩, ⟨e, He.relB_ok h1⟩⟩
  · cases h
def gtA (K : PySem.W.Frag) (C : Addr) (f : Str) : Addr := match PySem.W.recIn K (He.ma K C f) "property" with
  | some (.ref g :: _) => g
  | _ => 0
def propB (K : PySem.W.Frag) (C f : Str) : Bool := He.eqO (PySem.W.findIn K (.ref (He.ga K C)) f) (some (some (.ref (He.ma K (He.ga K C) f)))) &&
  (He.eqO (PySem.W.specialIn K (.ref (He.ma K (He.ga K C) f)) "__get__") (some (some (.builtin "property.__get__"))) && (decide (PySem.W.takesIn K (.ref (He.ma K (He.ga K C) f)) = some true) &&
    match PySem.W.recIn K (He.ma K (He.ga K C) f) "property" with
    | some (.ref _ :: _) => true
    | _ => false))
theorem prop_ok {K : PySem.W.Frag} {C f : Str} (h : propB K C f = true) : PropOf K (He.ga K C) f (He.ma K (He.ga K C) f) (gtA K (He.ga K C) f) := by
  obtain ⟨h1, h2⟩ := He.ba h
  obtain ⟨h3, h4⟩ := He.ba h2
  obtain ⟨h5, h6⟩ := He.ba h4
  refine ⟨He.eqO_ok h1, He.eqO_ok h3, of_decide_eq_true h5, ?_⟩
  unfold gtA
  split at h6
  · rename_i g r e
    rw [e]
    exact ⟨r, rfl⟩
  · cases h6
def callB (K : PySem.W.Frag) (C : Str) : Bool := (He.Fa.meth C "__call__").ok K && PySem.W.fnIn K (He.ma K (He.ga K C) "__call__")
theorem call_ok {K : PySem.W.Frag} {C : Str} (h : callB K C = true) : CallOf K (He.ga K C) (He.ma K (He.ga K C) "__call__") := by
  obtain ⟨h1, h2⟩ := He.ba h
  obtain ⟨a, b, _⟩ := He.meth_ok h1
  exact ⟨a, b, h2⟩
/-- C's instances are D's -/
structure Isa (K : PySem.W.Frag) (C D : Addr) : Prop where
  a1 : PySem.W.findIn K (.ref C) "__class__" = some (some (.builtin "object.__class__"))
  a2 : PySem.W.specialIn K (.builtin "object.__class__") "__get__" = some (some (.builtin "getset_descriptor.__get__"))
  a3 : PySem.W.takesIn K (.builtin "object.__class__") = some true
  a4 : PySem.W.mroIn K C (.type "object") = some true
  a5 : PySem.W.kitOne K (.ref C) (.ref D) = some true
def isaB (K : PySem.W.Frag) (C D : Str) : Bool := He.eqO (PySem.W.findIn K (.ref (He.ga K C)) "__class__") (some (some (.builtin "object.__class__"))) && (He.eqO (PySem.W.specialIn K (.builtin "object.__class__") "__get__") (some (some (.builtin "getset_descriptor.__get__"))) &&
  (decide (PySem.W.takesIn K (.builtin "object.__class__") = some true) && (decide (PySem.W.mroIn K (He.ga K C) (.type "object") = some true) && decide (PySem.W.kitOne K (.ref (He.ga K C)) (.ref (He.ga K D)) = some true))))
theorem isa_ok {K : PySem.W.Frag} {C D : Str} (h : isaB K C D = true) : Isa K (He.ga K C) (He.ga K D) := by
  obtain ⟨h1, h⟩ := He.ba h
  obtain ⟨h2, h⟩ := He.ba h
  obtain ⟨h3, h⟩ := He.ba h
  obtain ⟨h4, h5⟩ := He.ba h
  exact ⟨He.eqO_ok h1, He.eqO_ok h2, of_decide_eq_true h3, of_decide_eq_true h4, of_decide_eq_true h5⟩
theorem w_isaT {K : PySem.W.Frag} {H : Hp} {Q : VK} {a C D dx : Addr} {fs : List (Str × V)} (h : H a = some (.ins C dx fs)) (c : Cls K C) (i : Isa K C D) (q : Q (.bl true) H) : rIsi K [.ref a, .ref D] H Q :=
  ⟨.ref a, .ref D, .ref C, .ref D, true, rfl, .own _, .base (.ins h c i.a1 i.a2 i.a3 i.a4), i.a5, q⟩
def strB (K : PySem.W.Frag) (C : Str) : Bool := (He.Fa.meth C "__str__").ok K
theorem str_ok {K : PySem.W.Frag} {C : Str} (h : strB K C = true) : StrBy K (He.ga K C) (He.ma K (He.ga K C) "__str__") := by
  obtain ⟨a, b, _⟩ := He.meth_ok h
  exact ⟨a, b⟩
def limW : LimK → Str
  | .free => "free"
  | .short => "short"
  | .cleared => "cleared"
  | .standing => "standing"
def fmtB (K : PySem.W.Frag) (C : Str) : Bool := strB K C && (He.eqO (PySem.W.findIn K (.ref (He.ga K C)) "__format__") (some (some (.builtin "object.__format__"))) && decide (PySem.W.mroIn K (He.ga K C) (.type "object") = some true))
theorem fmt_ok {K : PySem.W.Frag} {C : Str} (h : fmtB K C = true) : FmtBy K (He.ga K C) (He.ma K (He.ga K C) "__str__") := by
  obtain ⟨h1, h2⟩ := He.ba h
  obtain ⟨h3, h4⟩ := He.ba h2
  obtain ⟨a, b⟩ := str_ok h1
  exact ⟨a, b, He.eqO_ok h3, of_decide_eq_true h4⟩

def top (i : Nat) : Stmt := PySem.Challenge.pw_learntbooks_k37_lengths_and_row_counts.main.body.getD i (.Pass ⟨0, 0, 0, 0⟩)
abbrev s_is_int : Stmt := top 17
abbrev s_is_between : Stmt := top 18
abbrev s_need_letters : Stmt := top 19
abbrev s_signs_of : Stmt := top 20
abbrev s_need_text : Stmt := top 21
abbrev s_Limit_lets : Stmt := inClass (top 24) 2
abbrev s_Limit_ends_at : Stmt := inClass (top 24) 3
abbrev s_Free___init__ : Stmt := inClass (top 27) 1
abbrev s_Short___init__ : Stmt := inClass (top 28) 2
abbrev s_Short_lets : Stmt := inClass (top 28) 3
abbrev s_Cleared___init__ : Stmt := inClass (top 29) 1
abbrev s_Cleared_ends_at : Stmt := inClass (top 29) 2
abbrev s_Standing___init__ : Stmt := inClass (top 30) 1
abbrev s_Standing_lets : Stmt := inClass (top 30) 2
abbrev s_Shelf___init__ : Stmt := inClass (top 33) 0
abbrev s_Shelf_begin : Stmt := inClass (top 33) 1
abbrev s_Shelf_would_grow : Stmt := inClass (top 33) 3
abbrev s_Shelf_grow : Stmt := inClass (top 33) 4
abbrev s_Shelf_longest_at : Stmt := inClass (top 33) 5
abbrev s_works : Stmt := top 34
abbrev s_row_by : Stmt := top 35
abbrev s_Setting___init__ : Stmt := inClass (top 38) 1
abbrev s_Setting_limit : Stmt := inClass (top 38) 3
abbrev s_Setting___call__ : Stmt := inClass (top 38) 4
abbrev s_lengths_of : Stmt := top 43
abbrev s_need_lengths : Stmt := top 44
abbrev s_choices_for : Stmt := top 45
abbrev s_product_of : Stmt := top 46
abbrev s_row_count : Stmt := top 47
abbrev s_law_pen : Stmt := top 49
abbrev s_law_draw : Stmt := top 50
abbrev s_law_pick : Stmt := top 51
abbrev s_law_text : Stmt := top 52
abbrev s_law_row : Stmt := top 53
abbrev s_law_lengths : Stmt := top 54
abbrev s_law_choices : Stmt := top 55
abbrev s_law_product : Stmt := top 56
abbrev s_law_bent : Stmt := top 57
abbrev s_law_counted_right : Stmt := top 58
abbrev s_law : Stmt := top 59
theorem sc_is_int : FnScope ["value"] ["value"] (defScope s_is_int) := ⟨rfl, rfl, rfl, by decide +kernel, rfl, by decide +kernel, by decide +kernel⟩
theorem sc_is_between : FnScope ["value", "least", "most"] ["value", "least", "most"] (defScope s_is_between) := ⟨rfl, rfl, rfl, by decide +kernel, rfl, by decide +kernel, by decide +kernel⟩
theorem sc_need_letters : FnScope ["value"] ["value"] (defScope s_need_letters) := ⟨rfl, rfl, rfl, by decide +kernel, rfl, by decide +kernel, by decide +kernel⟩
theorem sc_signs_of : FnScope ["letters"] ["letters"] (defScope s_signs_of) := ⟨rfl, rfl, rfl, by decide +kernel, rfl, by decide +kernel, by decide +kernel⟩
theorem sc_need_text : FnScope ["value", "letters", "at", "sign"] ["value", "letters"] (defScope s_need_text) := ⟨rfl, rfl, rfl, by decide +kernel, rfl, by decide +kernel, by decide +kernel⟩
theorem sc_Limit_lets : FnScope ["self", "grown", "size"] ["self", "grown", "size"] (defScope s_Limit_lets) := ⟨rfl, rfl, rfl, by decide +kernel, rfl, by decide +kernel, by decide +kernel⟩
theorem sc_Limit_ends_at : FnScope ["self", "grown"] ["self", "grown"] (defScope s_Limit_ends_at) := ⟨rfl, rfl, rfl, by decide +kernel, rfl, by decide +kernel, by decide +kernel⟩
theorem sc_Free___init__ : FnScope ["self"] ["self"] (defScope s_Free___init__) := ⟨rfl, rfl, rfl, by decide +kernel, rfl, by decide +kernel, by decide +kernel⟩
theorem sc_Short___init__ : FnScope ["self", "longest"] ["self", "longest"] (defScope s_Short___init__) := ⟨rfl, rfl, rfl, by decide +kernel, rfl, by decide +kernel, by decide +kernel⟩
theorem sc_Short_lets : FnScope ["self", "grown", "size"] ["self", "grown", "size"] (defScope s_Short_lets) := ⟨rfl, rfl, rfl, by decide +kernel, rfl, by decide +kernel, by decide +kernel⟩
theorem sc_Cleared___init__ : FnScope ["self", "many"] ["self", "many"] (defScope s_Cleared___init__) := ⟨rfl, rfl, rfl, by decide +kernel, rfl, by decide +kernel, by decide +kernel⟩
theorem sc_Cleared_ends_at : FnScope ["self", "grown"] ["self", "grown"] (defScope s_Cleared_ends_at) := ⟨rfl, rfl, rfl, by decide +kernel, rfl, by decide +kernel, by decide +kernel⟩
theorem sc_Standing___init__ : FnScope ["self", "many"] ["self", "many"] (defScope s_Standing___init__) := ⟨rfl, rfl, rfl, by decide +kernel, rfl, by decide +kernel, by decide +kernel⟩
theorem sc_Standing_lets : FnScope ["self", "grown", "size"] ["self", "grown", "size"] (defScope s_Standing_lets) := ⟨rfl, rfl, rfl, by decide +kernel, rfl, by decide +kernel, by decide +kernel⟩
theorem sc_Shelf___init__ : FnScope ["self", "setting"] ["self", "setting"] (defScope s_Shelf___init__) := ⟨rfl, rfl, rfl, by decide +kernel, rfl, by decide +kernel, by decide +kernel⟩
theorem sc_Shelf_begin : FnScope ["self", "first", "number", "word"] ["self"] (defScope s_Shelf_begin) := ⟨rfl, rfl, rfl, by decide +kernel, rfl, by decide +kernel, by decide +kernel⟩
theorem sc_Shelf_would_grow : FnScope ["self", "word", "size"] ["self", "word"] (defScope s_Shelf_would_grow) := ⟨rfl, rfl, rfl, by decide +kernel, rfl, by decide +kernel, by decide +kernel⟩
theorem sc_Shelf_grow : FnScope ["self", "word"] ["self", "word"] (defScope s_Shelf_grow) := ⟨rfl, rfl, rfl, by decide +kernel, rfl, by decide +kernel, by decide +kernel⟩
theorem sc_Shelf_longest_at : FnScope ["self", "text", "at", "size"] ["self", "text", "at"] (defScope s_Shelf_longest_at) := ⟨rfl, rfl, rfl, by decide +kernel, rfl, by decide +kernel, by decide +kernel⟩
theorem sc_works : GScope ["setting", "text", "shelf", "at", "word", "letter", "number", "is_grown"] ["setting", "text", "shelf"] (defScope s_works) := ⟨rfl, rfl, rfl, by decide +kernel, rfl, by decide +kernel, by decide +kernel⟩
theorem sc_row_by : FnScope ["setting", "text", "shelf", "steps", "word", "letter", "number", "grown"] ["setting", "text"] (defScope s_row_by) := ⟨rfl, rfl, rfl, by decide +kernel, rfl, by decide +kernel, by decide +kernel⟩
theorem sc_Setting___init__ : FnScope ["self", "letters", "limit"] ["self", "letters", "limit"] (defScope s_Setting___init__) := ⟨rfl, rfl, rfl, by decide +kernel, rfl, by decide +kernel, by decide +kernel⟩
theorem sc_Setting_limit : FnScope ["self"] ["self"] (defScope s_Setting_limit) := ⟨rfl, rfl, rfl, by decide +kernel, rfl, by decide +kernel, by decide +kernel⟩
theorem sc_Setting___call__ : FnScope ["self", "text"] ["self", "text"] (defScope s_Setting___call__) := ⟨rfl, rfl, rfl, by decide +kernel, rfl, by decide +kernel, by decide +kernel⟩
theorem sc_lengths_of : FnScope ["letters", "text", "word"] ["letters", "text"] (defScope s_lengths_of) := ⟨rfl, rfl, rfl, by decide +kernel, rfl, by decide +kernel, by decide +kernel⟩
theorem sc_need_lengths : FnScope ["lengths", "at", "length"] ["lengths"] (defScope s_need_lengths) := ⟨rfl, rfl, rfl, by decide +kernel, rfl, by decide +kernel, by decide +kernel⟩
theorem sc_choices_for : FnScope ["letters", "lengths", "found", "ahead", "at", "length", "longer"] ["letters", "lengths"] (defScope s_choices_for) := ⟨rfl, rfl, rfl, by decide +kernel, rfl, by decide +kernel, by decide +kernel⟩
theorem sc_product_of : FnScope ["numbers", "found", "number"] ["numbers"] (defScope s_product_of) := ⟨rfl, rfl, rfl, by decide +kernel, rfl, by decide +kernel, by decide +kernel⟩
theorem sc_row_count : FnScope ["letters", "lengths"] ["letters", "lengths"] (defScope s_row_count) := ⟨rfl, rfl, rfl, by decide +kernel, rfl, by decide +kernel, by decide +kernel⟩
theorem sc_law_pen : FnScope ["script"] ["script"] (defScope s_law_pen) := ⟨rfl, rfl, rfl, by decide +kernel, rfl, by decide +kernel, by decide +kernel⟩
theorem sc_law_draw : FnScope ["pen", "many", "digit", "spot", "cell", "great", "mixed"] ["pen", "many"] (defScope s_law_draw) := ⟨rfl, rfl, rfl, by decide +kernel, rfl, by decide +kernel, by decide +kernel⟩
theorem sc_law_pick : FnScope ["pen", "some"] ["pen", "some"] (defScope s_law_pick) := ⟨rfl, rfl, rfl, by decide +kernel, rfl, by decide +kernel, by decide +kernel⟩
theorem sc_law_text : FnScope ["pen", "letters", "most", "few", "turn"] ["pen", "letters", "most"] (defScope s_law_text) := ⟨rfl, rfl, rfl, by decide +kernel, rfl, by decide +kernel, by decide +kernel⟩
theorem sc_law_row : FnScope ["text", "known", "found", "at", "size", "word"] ["text"] (defScope s_law_row) := ⟨rfl, rfl, rfl, by decide +kernel, rfl, by decide +kernel, by decide +kernel⟩
theorem sc_law_lengths : FnScope ["text", "word"] ["text"] (defScope s_law_lengths) := ⟨rfl, rfl, rfl, by decide +kernel, rfl, by decide +kernel, by decide +kernel⟩
theorem sc_law_choices : FnScope ["letters", "lengths", "found", "at", "ahead", "longer"] ["letters", "lengths"] (defScope s_law_choices) := ⟨rfl, rfl, rfl, by decide +kernel, rfl, by decide +kernel, by decide +kernel⟩
theorem sc_law_product : FnScope ["numbers", "found", "number"] ["numbers"] (defScope s_law_product) := ⟨rfl, rfl, rfl, by decide +kernel, rfl, by decide +kernel, by decide +kernel⟩
theorem sc_law_bent : FnScope ["pen", "lengths", "row", "way", "spot", "length"] ["pen", "lengths"] (defScope s_law_bent) := ⟨rfl, rfl, rfl, by decide +kernel, rfl, by decide +kernel, by decide +kernel⟩
theorem sc_law_counted_right : FnScope ["letters", "lengths", "due", "kept", "told"] ["letters", "lengths"] (defScope s_law_counted_right) := ⟨rfl, rfl, rfl, by decide +kernel, rfl, by decide +kernel, by decide +kernel⟩
theorem sc_law : FnScope ["script", "pen", "lap", "letters", "text", "due", "some", "turn", "drawn", "stairs", "length"] ["script"] (defScope s_law) := ⟨rfl, rfl, rfl, by decide +kernel, rfl, by decide +kernel, by decide +kernel⟩
theorem kw0 : KwOk s_row_count "row_count" ["letters", "lengths"] 0 ["lengths", "letters"] [1, 0] := ⟨fun _ _ _ _ _ _ us ws h1 h2 => match us, ws, h1, h2 with | [], [_, _], _, _ => rfl⟩
theorem kw1 : KwOk s_lengths_of "lengths_of" ["letters", "text"] 0 ["text", "letters"] [1, 0] := ⟨fun _ _ _ _ _ _ us ws h1 h2 => match us, ws, h1, h2 with | [], [_, _], _, _ => rfl⟩
/-- what the walk asks of the module's names -/
structure Txt (K : PySem.W.Frag) (mg : Str → Option Value) : Prop where
  n_abs : mg "abs" = none
  n_bool : mg "bool" = none
  n_enumerate : mg "enumerate" = none
  n_int : mg "int" = none
  n_isinstance : mg "isinstance" = none
  n_len : mg "len" = none
  n_list : mg "list" = none
  n_max : mg "max" = none
  n_range : mg "range" = none
  n_repr : mg "repr" = none
  n_sorted : mg "sorted" = none
  n_str : mg "str" = none
  n_sum : mg "sum" = none
  n_tuple : mg "tuple" = none
  g_LEAST_LETTERS : ∃ u, mg "LEAST_LETTERS" = some u ∧ RelV (.int (2)) u
  g_MOST_LETTERS : ∃ u, mg "MOST_LETTERS" = some u ∧ RelV (.int (26)) u
  g_MOST_TEXT : ∃ u, mg "MOST_TEXT" = some u ∧ RelV (.int (5000)) u
  g_SIGNS : ∃ u, mg "SIGNS" = some u ∧ RelV (.str "abcdefghijklmnopqrstuvwxyz") u
  cl_lim : ∀ k : LimK, Cls K (cLim K k)
  na_told : ∀ k : LimK, NoAttr K (cLim K k) "told"
  na_longest : NoAttr K (cLim K .short) "longest"
  na_manyC : NoAttr K (cLim K .cleared) "many"
  na_manyS : NoAttr K (cLim K .standing) "many"
  mt_lets : ∀ k : LimK, Meth K (cLim K k) "lets" (He.ma K (cLim K k) "lets")
  mt_ends : ∀ k : LimK, Meth K (cLim K k) "ends_at" (He.ma K (cLim K k) "ends_at")
  mk_lim : ∀ k : LimK, Mk K (cLim K k) (He.ma K (cLim K k) "__init__")
  gc_lim : ∀ k : LimK, mg (limNm k) = some (.ref (cLim K k))
  isa_lim : ∀ k : LimK, Isa K (cLim K k) (He.ga K "Limit")
  gc_Limit : mg "Limit" = some (.ref (He.ga K "Limit"))
  gc_Counted : mg "Counted" = some (.ref (He.ga K "Counted"))
  most_s : ClsCon K (He.ga K "Short") "MOST" (.int 64)
  most_c : ClsCon K (He.ga K "Counted") "MOST" (.int 4096)
  cl_set : ∀ h : Bool, Cls K (cSet K h)
  na_letters : ∀ h : Bool, NoAttr K (cSet K h) "letters"
  na_own : ∀ h : Bool, NoAttr K (cSet K h) "own_limit"
  mk_set : ∀ h : Bool, Mk K (cSet K h) (He.ma K (cSet K h) "__init__")
  gc_Hidden : mg "Hidden" = some (.ref (cSet K true))
  gc_Told : mg "Told" = some (.ref (cSet K false))
  word_set : ∀ h : Bool, ∃ u, Con K (cSet K h) "WORD" (.str (setWord h)) u
  pr_limit : ∀ h : Bool, PropOf K (cSet K h) "limit" (He.ma K (cSet K h) "limit") (gtA K (cSet K h) "limit")
  cl_shelf : Cls K (cShelf K)
  na_sh_setting : NoAttr K (cShelf K) "setting"
  na_sh_is_hidden : NoAttr K (cShelf K) "is_hidden"
  na_sh_by_word : NoAttr K (cShelf K) "by_word"
  na_sh_by_number : NoAttr K (cShelf K) "by_number"
  na_sh_grown_now : NoAttr K (cShelf K) "grown_now"
  mt_sh_begin : Meth K (cShelf K) "begin" (He.ma K (cShelf K) "begin")
  mt_sh_would_grow : Meth K (cShelf K) "would_grow" (He.ma K (cShelf K) "would_grow")
  mt_sh_grow : Meth K (cShelf K) "grow" (He.ma K (cShelf K) "grow")
  mt_sh_longest_at : Meth K (cShelf K) "longest_at" (He.ma K (cShelf K) "longest_at")
  mk_shelf : Mk K (cShelf K) (He.ma K (cShelf K) "__init__")
  gc_shelf : mg "Shelf" = some (.ref (cShelf K))

def gfs : List (PySem.W.Frag → Bool) := [
  fun K => (He.Fa.glo "is_int").ok K,
  fun K => (He.Fa.glo "need_text").ok K,
  fun K => (He.Fa.glo "choices_for").ok K,
  fun K => (He.Fa.glo "product_of").ok K,
  fun K => (He.Fa.glo "_law_pen").ok K,
  fun K => (He.Fa.glo "_law_draw").ok K,
  fun K => (He.Fa.glo "_law_row").ok K,
  fun K => (He.Fa.glo "_law_choices").ok K,
  fun K => (He.Fa.glo "_law_product").ok K,
  fun K => (He.Fa.glo "is_between").ok K,
  fun K => (He.Fa.glo "_law_pick").ok K,
  fun K => (He.Fa.glo "_law_lengths").ok K,
  fun K => (He.Fa.glo "_law_bent").ok K,
  fun K => (He.Fa.glo "need_letters").ok K,
  fun K => (He.Fa.glo "need_lengths").ok K,
  fun K => (He.Fa.glo "_law_text").ok K,
  fun K => (He.Fa.glo "signs_of").ok K,
  fun K => (He.Fa.glo "row_count").ok K,
  fun K => (He.Fa.glo "_law_counted_right").ok K,
  fun K => (He.Fa.glo "works").ok K,
  fun K => (He.Fa.glo "row_by").ok K,
  fun K => (He.Fa.glo "lengths_of").ok K,
  fun K => (He.Fa.glo "law").ok K,
  fun K => (He.Fa.free "abs").ok K,
  fun K => (He.Fa.free "bool").ok K,
  fun K => (He.Fa.free "enumerate").ok K,
  fun K => (He.Fa.free "int").ok K,
  fun K => (He.Fa.free "isinstance").ok K,
  fun K => (He.Fa.free "len").ok K,
  fun K => (He.Fa.free "list").ok K,
  fun K => (He.Fa.free "max").ok K,
  fun K => (He.Fa.free "range").ok K,
  fun K => (He.Fa.free "repr").ok K,
  fun K => (He.Fa.free "sorted").ok K,
  fun K => (He.Fa.free "str").ok K,
  fun K => (He.Fa.free "sum").ok K,
  fun K => (He.Fa.free "tuple").ok K,
  fun K => (He.Fa.int "LEAST_LETTERS" (2)).ok K,
  fun K => (He.Fa.int "MOST_LETTERS" (26)).ok K,
  fun K => (He.Fa.int "MOST_TEXT" (5000)).ok K,
  fun K => (He.Fa.str "SIGNS" "abcdefghijklmnopqrstuvwxyz").ok K,
  fun K => (He.Fa.cls "Free").ok K,
  fun K => (He.Fa.cls "Short").ok K,
  fun K => (He.Fa.cls "Cleared").ok K,
  fun K => (He.Fa.cls "Standing").ok K,
  fun K => (He.Fa.noat "Free" "told").ok K,
  fun K => (He.Fa.noat "Short" "told").ok K,
  fun K => (He.Fa.noat "Cleared" "told").ok K,
  fun K => (He.Fa.noat "Standing" "told").ok K,
  fun K => (He.Fa.noat "Short" "longest").ok K,
  fun K => (He.Fa.noat "Cleared" "many").ok K,
  fun K => (He.Fa.noat "Standing" "many").ok K,
  fun K => (He.Fa.meth "Free" "lets").ok K,
  fun K => (He.Fa.meth "Short" "lets").ok K,
  fun K => (He.Fa.meth "Cleared" "lets").ok K,
  fun K => (He.Fa.meth "Standing" "lets").ok K,
  fun K => (He.Fa.meth "Free" "ends_at").ok K,
  fun K => (He.Fa.meth "Short" "ends_at").ok K,
  fun K => (He.Fa.meth "Cleared" "ends_at").ok K,
  fun K => (He.Fa.meth "Standing" "ends_at").ok K,
  fun K => (He.Fa.mkr "Free").ok K,
  fun K => (He.Fa.mkr "Short").ok K,
  fun K => (He.Fa.mkr "Cleared").ok K,
  fun K => (He.Fa.mkr "Standing").ok K,
  fun K => (He.Fa.glo "Free").ok K,
  fun K => (He.Fa.glo "Short").ok K,
  fun K => (He.Fa.glo "Cleared").ok K,
  fun K => (He.Fa.glo "Standing").ok K,
  fun K => isaB K "Free" "Limit",
  fun K => isaB K "Short" "Limit",
  fun K => isaB K "Cleared" "Limit",
  fun K => isaB K "Standing" "Limit",
  fun K => (He.Fa.glo "Limit").ok K,
  fun K => (He.Fa.glo "Counted").ok K,
  fun K => clsConB K "Short" "MOST" (.int 64),
  fun K => clsConB K "Counted" "MOST" (.int 4096),
  fun K => (He.Fa.cls "Hidden").ok K,
  fun K => (He.Fa.cls "Told").ok K,
  fun K => (He.Fa.noat "Hidden" "letters").ok K,
  fun K => (He.Fa.noat "Told" "letters").ok K,
  fun K => (He.Fa.noat "Hidden" "own_limit").ok K,
  fun K => (He.Fa.noat "Told" "own_limit").ok K,
  fun K => (He.Fa.mkr "Hidden").ok K,
  fun K => (He.Fa.mkr "Told").ok K,
  fun K => (He.Fa.glo "Hidden").ok K,
  fun K => (He.Fa.glo "Told").ok K,
  fun K => He.conB K "Hidden" "WORD" (.str "hidden"),
  fun K => He.conB K "Told" "WORD" (.str "told"),
  fun K => propB K "Hidden" "limit",
  fun K => propB K "Told" "limit",
  fun K => (He.Fa.cls "Shelf").ok K,
  fun K => (He.Fa.noat "Shelf" "setting").ok K,
  fun K => (He.Fa.noat "Shelf" "is_hidden").ok K,
  fun K => (He.Fa.noat "Shelf" "by_word").ok K,
  fun K => (He.Fa.noat "Shelf" "by_number").ok K,
  fun K => (He.Fa.noat "Shelf" "grown_now").ok K,
  fun K => (He.Fa.meth "Shelf" "begin").ok K,
  fun K => (He.Fa.meth "Shelf" "would_grow").ok K,
  fun K => (He.Fa.meth "Shelf" "grow").ok K,
  fun K => (He.Fa.meth "Shelf" "longest_at").ok K,
  fun K => (He.Fa.mkr "Shelf").ok K,
  fun K => (He.Fa.glo "Shelf").ok K]
def gd0 : GD := ⟨fun K => He.ga K "is_int", "is_int", "is_int", s_is_int, []⟩
def gd1 : GD := ⟨fun K => He.ga K "need_text", "need_text", "need_text", s_need_text, []⟩
def gd2 : GD := ⟨fun K => He.ma K (cLim K .free) "__init__", "__init__", "Free.__init__", s_Free___init__, []⟩
def gd3 : GD := ⟨fun K => He.ma K (cShelf K) "longest_at", "longest_at", "Shelf.longest_at", s_Shelf_longest_at, []⟩
def gd4 : GD := ⟨fun K => He.ga K "choices_for", "choices_for", "choices_for", s_choices_for, []⟩
def gd5 : GD := ⟨fun K => He.ga K "product_of", "product_of", "product_of", s_product_of, []⟩
def gd6 : GD := ⟨fun K => He.ga K "_law_pen", "_law_pen", "_law_pen", s_law_pen, []⟩
def gd7 : GD := ⟨fun K => He.ga K "_law_draw", "_law_draw", "_law_draw", s_law_draw, []⟩
def gd8 : GD := ⟨fun K => He.ga K "_law_row", "_law_row", "_law_row", s_law_row, []⟩
def gd9 : GD := ⟨fun K => He.ga K "_law_choices", "_law_choices", "_law_choices", s_law_choices, []⟩
def gd10 : GD := ⟨fun K => He.ga K "_law_product", "_law_product", "_law_product", s_law_product, []⟩
def gd11 : GD := ⟨fun K => He.ga K "is_between", "is_between", "is_between", s_is_between, []⟩
def gd12 : GD := ⟨fun K => He.ga K "_law_pick", "_law_pick", "_law_pick", s_law_pick, []⟩
def gd13 : GD := ⟨fun K => He.ga K "_law_lengths", "_law_lengths", "_law_lengths", s_law_lengths, []⟩
def gd14 : GD := ⟨fun K => He.ga K "_law_bent", "_law_bent", "_law_bent", s_law_bent, []⟩
def gd15 : GD := ⟨fun K => He.ga K "need_letters", "need_letters", "need_letters", s_need_letters, []⟩
def gd16 : GD := ⟨fun K => He.ma K (cShelf K) "would_grow", "would_grow", "Shelf.would_grow", s_Shelf_would_grow, []⟩
def gd17 : GD := ⟨fun K => He.ga K "need_lengths", "need_lengths", "need_lengths", s_need_lengths, []⟩
def gd18 : GD := ⟨fun K => He.ga K "_law_text", "_law_text", "_law_text", s_law_text, []⟩
def gd19 : GD := ⟨fun K => He.ga K "signs_of", "signs_of", "signs_of", s_signs_of, []⟩
def gd20 : GD := ⟨fun K => He.ga K "row_count", "row_count", "row_count", s_row_count, []⟩
def gd21 : GD := ⟨fun K => He.ma K (cShelf K) "begin", "begin", "Shelf.begin", s_Shelf_begin, []⟩
def gd22 : GD := ⟨fun K => He.ga K "_law_counted_right", "_law_counted_right", "_law_counted_right", s_law_counted_right, []⟩
def gd23 : GD := ⟨fun K => He.ma K (cShelf K) "__init__", "__init__", "Shelf.__init__", s_Shelf___init__, []⟩
def gd24 : GD := ⟨fun K => He.ma K (cShelf K) "grow", "grow", "Shelf.grow", s_Shelf_grow, []⟩
def gd25 : GD := ⟨fun K => He.ga K "works", "works", "works", s_works, []⟩
def gd26 : GD := ⟨fun K => He.ga K "row_by", "row_by", "row_by", s_row_by, []⟩
def gd27 : GD := ⟨fun K => He.ga K "lengths_of", "lengths_of", "lengths_of", s_lengths_of, []⟩
def gd28 : GD := ⟨fun K => He.ga K "law", "law", "law", s_law, []⟩
def gd29 : GD := ⟨fun K => He.ma K (cLim K .free) "lets", "lets", "Limit.lets", s_Limit_lets, []⟩
def gd30 : GD := ⟨fun K => He.ma K (cLim K .short) "lets", "lets", "Short.lets", s_Short_lets, []⟩
def gd31 : GD := ⟨fun K => He.ma K (cLim K .cleared) "lets", "lets", "Limit.lets", s_Limit_lets, []⟩
def gd32 : GD := ⟨fun K => He.ma K (cLim K .standing) "lets", "lets", "Standing.lets", s_Standing_lets, []⟩
def gd33 : GD := ⟨fun K => He.ma K (cLim K .free) "ends_at", "ends_at", "Limit.ends_at", s_Limit_ends_at, []⟩
def gd34 : GD := ⟨fun K => He.ma K (cLim K .short) "ends_at", "ends_at", "Limit.ends_at", s_Limit_ends_at, []⟩
def gd35 : GD := ⟨fun K => He.ma K (cLim K .cleared) "ends_at", "ends_at", "Cleared.ends_at", s_Cleared_ends_at, []⟩
def gd36 : GD := ⟨fun K => He.ma K (cLim K .standing) "ends_at", "ends_at", "Limit.ends_at", s_Limit_ends_at, []⟩
def gd37 : GD := ⟨fun K => gtA K (cSet K true) "limit", "limit", "Setting.limit", s_Setting_limit, []⟩
def gd38 : GD := ⟨fun K => gtA K (cSet K false) "limit", "limit", "Setting.limit", s_Setting_limit, []⟩
def gd39 : GD := ⟨fun K => He.ma K (cSet K true) "__init__", "__init__", "Setting.__init__", s_Setting___init__, [.non]⟩
def gd40 : GD := ⟨fun K => He.ma K (cSet K false) "__init__", "__init__", "Setting.__init__", s_Setting___init__, [.non]⟩
def gds : List GD := [gd0, gd1, gd2, gd3, gd4, gd5, gd6, gd7, gd8, gd9, gd10, gd11, gd12, gd13, gd14, gd15, gd16, gd17, gd18, gd19, gd20, gd21, gd22, gd23, gd24, gd25, gd26, gd27, gd28, gd29, gd30, gd31, gd32, gd33, gd34, gd35, gd36, gd37, gd38, gd39, gd40]
abbrev RR : PySem.W.OpenRow := PySem.W.OpenLaw.row PySem.Challenge.rw_learntbooks_k37_lengths_and_row_counts
/-- the addresses that are reached, each once: seen is a row of bits -/
def newA : List Addr → Nat → List Addr → Nat × List Addr
  | [], seen, acc => (seen, acc)
  | a :: r, seen, acc => bif Nat.beq ((seen >>> a) % 2) 1 then newA r seen acc else newA r (seen ||| (1 <<< a)) (a :: acc)
def bfsA (g : Addr → Option Obj) : Nat → Nat → List Addr → List Addr
  | 0, _, fr => fr
  | n + 1, seen, fr => match newA (fr.flatMap fun a => match g a with | some o => He.refsD o | none => []) seen [] with
    | (seen', new) => fr ++ bfsA g n seen' new
def asL (g : Addr → Option Obj) (n : Nat) : List Addr := bfsA g n (1 <<< mainGlobals) [mainGlobals]
def gobsC (n : Nat) (fs : List (PySem.W.Frag → Bool)) (ds : List GD) (g : Addr → Option Obj) : GV := gobs fs ds (He.frG g (cStatics :: asL g n))
def ghookC (n : Nat) (fs : List (PySem.W.Frag → Bool)) (ds : List GD) : PySem.W.Hook where
  α := GV
  val := fun _ => gval ds
  obs := fun sh => gobsC n fs ds sh.heap.get?
  says := fun _ hp => ∃ K : PySem.W.Frag, K.In hp ∧ GSays fs ds K
  of := fun _ _ q => ⟨_, He.frG_in, q⟩
  keeps := fun _ _ _ ⟨K, i, c⟩ q => ⟨K, PySem.W.Frag.In.keeps i q, c⟩
theorem gobsC_eq {n : Nat} {fs : List (PySem.W.Frag → Bool)} {ds : List GD} {g : Addr → Option Obj} {sh : Shared} (h : ∀ a, g a = sh.heap.get? a) : gobsC n fs ds g = (ghookC n fs ds).obs sh := by
  obtain rfl : g = sh.heap.get? := funext h
  rfl
abbrev hk : PySem.W.Hook := ghookC 6 gfs gds
def ob (s : PySem.W.SharedT) : GV := gobsC 6 gfs gds (HandSHeadRun.getT s)
theorem ob_eq (s : PySem.W.SharedT) : ob s = hk.obs s.abs := gobsC_eq (HandSHeadRun.getT_eq s)
def loose0 : List PySem.Str := ["_wall", "LearnError", "BadInput", "Refused", "BadLetters", "BadLimit", "BadRow", "BadSign", "BadText", "TooMany", "SIGNS", "LEAST_LETTERS", "MOST_LETTERS", "MOST_TEXT", "MOST_FIGURES", "is_int", "is_between", "need_letters", "signs_of", "need_text", "number_of", "Limit", "count_words", "Counted", "Free", "Short", "Cleared", "Standing", "limit_at", "Shelf"]
def loose1 : List PySem.Str := ["works", "row_by", "need_limit", "Setting", "Hidden", "Told", "setting_at", "lengths_of", "need_lengths", "choices_for", "product_of", "row_count", "_law_pen", "_law_draw", "_law_pick", "_law_text", "_law_row", "_law_lengths", "_law_choices", "_law_product", "_law_bent", "_law_counted_right"]
def loose : List PySem.Str := loose0 ++ loose1
theorem run (w : World) : HandSHeadRun.RunEq RR (PySem.W.view RR.prog [59]) hk ob 40000 loose w := by
  intro os
  kernel_rfl
/-! ### checks.py -/
def spIsInt : Sp := fun vs H Q _ => ∃ x n, vs = [x] ∧ BV H x n ∧ Q (.bl (isIntV x)) H
def spBetween : Sp := fun vs H Q _ => ∃ x n lo hi, vs = [x, .int lo, .int hi] ∧ BV H x n ∧ Q (.bl (betV lo hi x)) H
def spNeedL : Sp := fun vs H Q _ => ∃ q : Int, vs = [.int q] ∧ 2 ≤ q ∧ q ≤ 26 ∧ Q .non H
section
variable {P : Program} {w : World} {K : PySem.W.Frag} {mg : Str → Option Value} {base : Heap}
theorem d_is_int (T : Txt K mg) (F : FD K mg "is_int" s_is_int) : Dn P w K mg base 1 "is_int" s_is_int ["value"] (spIsInt) := by
  refine dn_of F (fun _ _ _ _ _ _ us hl => match us, hl with | [_], _ => rfl) sc_is_int (fun vs H Q E h => ?_) (fun fa cdv A outer s H vs Q E hr h => ?_)
  · obtain ⟨x, n, rfl, _⟩ := h
    rfl
  · obtain ⟨x, n, rfl, b, k⟩ := h
    refine ⟨_, PSs.nox (pss_one (ps_ret (pe_and (pe_callB call_isi (by rfl) T.n_isinstance (by decide +kernel) (pa_cons (pv 0) (pa_cons (pe_bltn (v := .ty "int") (by rfl) T.n_int (by decide +kernel) rfl) pa_nil))) (pe_one (pe_not (pe_callB call_isi (by rfl) T.n_isinstance (by decide +kernel) (pa_cons (pv 0) (pa_cons (pe_bltn (v := .ty "bool") (by rfl) T.n_bool (by decide +kernel) rfl) pa_nil)))))))), ?_⟩
    refine w_start (σ := [some x]) rfl ?_
    repeat walk_at "st"
    refine w_isiInt b ?_
    cases b <;> (repeat walk_at "st")
    all_goals (first | exact k | (refine w_isiBool (by first | exact .int _ | exact .bl _) ?_; repeat walk_at "st"; exact k))
theorem d_is_between (T : Txt K mg) (F : FD K mg "is_between" s_is_between) (c_is_int : Dn P w K mg base 1 "is_int" s_is_int ["value"] (spIsInt)) : Dn P w K mg base 2 "is_between" s_is_between ["value", "least", "most"] (spBetween) := by
  refine dn_of F (fun _ _ _ _ _ _ us hl => match us, hl with | [_, _, _], _ => rfl) sc_is_between (fun vs H Q E h => ?_) (fun fa cdv A outer s H vs Q E hr h => ?_)
  · obtain ⟨x, n, lo, hi, rfl, _⟩ := h
    rfl
  · obtain ⟨x, n, lo, hi, rfl, b, k⟩ := h
    refine ⟨_, PSs.nox (pss_one (ps_ret (pe_and (pe_d c_is_int hr (by decide) rfl (pa_cons (pv 0) pa_nil)) (pe_one (pe_chain op_le op_le (pv 1) (pv 0) (pv 2)))))), ?_⟩
    refine w_start (σ := [some x, some (.int lo), some (.int hi)]) rfl ?_
    repeat walk_at "st"
    refine ⟨x, n, rfl, b, ?_⟩
    cases b <;> (repeat walk_at "st")
    all_goals try exact k
    rename_i i
    refine w_ite (fun h1 => ?_) (fun h1 => ?_)
    · repeat walk_at "st"
      rw [show betV lo hi (.int i) = decide (i ≤ hi) by show (decide (lo ≤ i) && decide (i ≤ hi)) = _; rw [decide_eq_true h1, Bool.true_and]] at k
      exact k
    · repeat walk_at "st"
      rw [show betV lo hi (.int i) = false by show (decide (lo ≤ i) && decide (i ≤ hi)) = _; rw [decide_eq_false h1, Bool.false_and]] at k
      exact k
theorem d_need_letters (T : Txt K mg) (F : FD K mg "need_letters" s_need_letters) (c_is_between : Dn P w K mg base 2 "is_between" s_is_between ["value", "least", "most"] (spBetween)) : Dn P w K mg base 3 "need_letters" s_need_letters ["value"] (spNeedL) := by
  refine dn_of F (fun _ _ _ _ _ _ us hl => match us, hl with | [_], _ => rfl) sc_need_letters (fun vs H Q E h => ?_) (fun fa cdv A outer s H vs Q E hr h => ?_)
  · obtain ⟨q, rfl, _⟩ := h
    rfl
  · obtain ⟨q, rfl, h1, h2, k⟩ := h
    refine ⟨_, PSs.nox (pss_one (ps_if (pt_not (pt_val (pe_d c_is_between hr (by decide) rfl (pa_cons (pv 0) (pa_cons (pe_gv rfl T.g_LEAST_LETTERS) (pa_cons (pe_gv rfl T.g_MOST_LETTERS) pa_nil)))) (by intro _; rfl)))
 (pss_one ps_never)
 pss_nil)), ?_⟩
    refine w_start (σ := [some (.int q)]) rfl ?_
    repeat walk_at "st"
    refine ⟨.int q, "int", 2, 26, rfl, .int q, ?_⟩
    have e : betV 2 26 (.int q) = true := by
      show (decide (2 ≤ q) && decide (q ≤ 26)) = true
      rw [decide_eq_true h1, decide_eq_true h2]
      rfl
    repeat walk_at "st"
    refine w_iteF (by rw [e]; rfl) ?_
    repeat walk_at "st"
    exact k
/-- the letters a to z -/
def abcL : List Nat := (List.range 26).map (97 + ·)
theorem abc_S : (("abcdefghijklmnopqrstuvwxyz" : Str)) = SX.S abcL := by decide +kernel
def spSigns : Sp := fun vs H Q _ => ∃ q : Int, vs = [.int q] ∧ 2 ≤ q ∧ q ≤ 26 ∧ Q (.str (SX.S (abcL.take q.toNat))) H
theorem d_signs_of (T : Txt K mg) (F : FD K mg "signs_of" s_signs_of) (c_need_letters : Dn P w K mg base 3 "need_letters" s_need_letters ["value"] (spNeedL)) : Dn P w K mg base 4 "signs_of" s_signs_of ["letters"] (spSigns) := by
  refine dn_of F (fun _ _ _ _ _ _ us hl => match us, hl with | [_], _ => rfl) sc_signs_of (fun vs H Q E h => ?_) (fun fa cdv A outer s H vs Q E hr h => ?_)
  · obtain ⟨q, rfl, _⟩ := h
    rfl
  · obtain ⟨q, rfl, h1, h2, k⟩ := h
    refine ⟨_, PSs.nox (pss_cons (ps_expr (pe_d c_need_letters hr (by decide) rfl (pa_cons (pv 0) pa_nil)))
 (pss_one (ps_ret (pe_slice sl_str (pe_gv rfl T.g_SIGNS) po_none (po_some (pv 0)))))), ?_⟩
    refine w_start (σ := [some (.int q)]) rfl ?_
    repeat walk_at "st"
    refine ⟨q, rfl, h1, h2, ?_⟩
    repeat walk_at "st"
    rw [abc_S, cutS_to (by omega)]
    exact k
end

/-! ### the coder, plainly -/
abbrev Wd := List Nat
/-- a setting -/
structure Sg where
  hid : Bool
  q : Nat
  lk : LimK
  ln : Int
def letsK (k : LimK) (n g z : Int) : Bool := match k with
  | .short => decide (z ≤ n)
  | .standing => decide (g < n)
  | _ => true
def endsK (k : LimK) (n g : Int) : Bool := match k with
  | .cleared => decide (g ≥ n)
  | _ => false
def firstW (S : Sg) : List Wd := if S.hid = true then (abcL.take S.q).map fun c => [c] else [[]]
def szOf (S : Sg) (w : Wd) : Int := if S.hid = true then w.length else w.length + 1
/-- a book while it is coded -/
structure Shf where
  ws : List Wd
  g : Int
def wgrow (S : Sg) (st : Shf) (w : Wd) : Bool := !decide (w ∈ st.ws) && letsK S.lk S.ln st.g (szOf S w)
def growS (S : Sg) (st : Shf) (w : Wd) : Shf := if endsK S.lk S.ln (st.g + 1) = true then ⟨firstW S, 0⟩ else ⟨st.ws ++ [w], st.g + 1⟩
/-- the longest beginning of r that is known: from s letters on -/
def lsz (L : List Wd) (r : Wd) : Nat → Nat → Nat
  | 0, s => s
  | f + 1, s => if s < r.length ∧ r.take (s + 1) ∈ L then lsz L r f (s + 1) else s
theorem lsz_le (L : List Wd) (r : Wd) : ∀ f s, s ≤ r.length → lsz L r f s ≤ r.length
  | 0, s, h => h
  | f + 1, s, h => by
    unfold lsz
    by_cases c : s < r.length ∧ r.take (s + 1) ∈ L
    · rw [if_pos c]
      exact lsz_le L r f (s + 1) c.1
    · rw [if_neg c]
      exact h
theorem lsz_ge (L : List Wd) (r : Wd) : ∀ f s, s ≤ lsz L r f s
  | 0, s => Nat.le_refl s
  | f + 1, s => by
    unfold lsz
    by_cases c : s < r.length ∧ r.take (s + 1) ∈ L
    · rw [if_pos c]
      exact Nat.le_trans (Nat.le_succ s) (lsz_ge L r f (s + 1))
    · rw [if_neg c]
      exact Nat.le_refl s
theorem lsz_in (L : List Wd) (r : Wd) : ∀ f s, r.take s ∈ L → r.take (lsz L r f s) ∈ L
  | 0, s, h => h
  | f + 1, s, h => by
    unfold lsz
    by_cases c : s < r.length ∧ r.take (s + 1) ∈ L
    · rw [if_pos c]
      exact lsz_in L r f (s + 1) c.2
    · rw [if_neg c]
      exact h
def bas (S : Sg) : Nat := if S.hid = true then 1 else 0
def lgst (S : Sg) (L : List Wd) (r : Wd) : Nat := lsz L r (r.length - bas S) (bas S)
structure Stp where
  w : Wd
  l : Wd
  n : Nat
  g : Wd
/-- one code: what it tells, the book behind it, the rest of the text -/
def step1 (S : Sg) (st : Shf) (r : Wd) : Stp × Shf × Wd :=
  let n := lgst S st.ws r
  let w := r.take n
  let l := (r.drop n).take 1
  let b := !decide (l = []) && wgrow S st (w ++ l)
  (⟨w, l, st.ws.idxOf w, if b = true then w ++ l else []⟩, if b = true then growS S st (w ++ l) else st, r.drop (if S.hid = true then n else n + 1))
def stepsF (S : Sg) : Nat → Shf → Wd → List Stp
  | 0, _, _ => []
  | f + 1, st, r => if r = [] then [] else (step1 S st r).1 :: stepsF S f (step1 S st r).2.1 (step1 S st r).2.2
def stepsOf (S : Sg) (r : Wd) : List Stp := stepsF S r.length ⟨firstW S, 0⟩ r
def rowW (S : Sg) (x : Stp) : Wd := if S.hid = true then x.w else x.w ++ x.l
def rowOf (S : Sg) (r : Wd) : List Wd := (stepsOf S r).map (rowW S)
/-! ### .. in the heap -/
def limFs : LimK → Int → List (Str × V)
  | .free, _ => [("told", .non)]
  | .short, n => [("told", .int n), ("longest", .int n)]
  | _, n => [("told", .int n), ("many", .int n)]
def LimAt (K : PySem.W.Frag) (H : Hp) (l : Addr) (k : LimK) (n : Int) : Prop := ∃ dx, H l = some (.ins (cLim K k) dx (limFs k n))
def SetAt (K : PySem.W.Frag) (H : Hp) (a : Addr) (S : Sg) : Prop := ∃ dx l, H a = some (.ins (cSet K S.hid) dx [("letters", .int S.q), ("own_limit", .ref l)]) ∧ LimAt K H l S.lk S.ln ∧ 2 ≤ S.q ∧ S.q ≤ 26
theorem LimAt.same {K : PySem.W.Frag} {H H' : Hp} {l : Addr} {k : LimK} {n : Int} (e : Same H H') (h : LimAt K H l k n) : LimAt K H' l k n := let ⟨dx, h⟩ := h; ⟨dx, e _ _ h⟩
theorem SetAt.same {K : PySem.W.Frag} {H H' : Hp} {a : Addr} {S : Sg} (e : Same H H') (h : SetAt K H a S) : SetAt K H' a S := let ⟨dx, l, h, h2, h3⟩ := h; ⟨dx, l, e _ _ h, h2.same e, h3⟩
def strW (w : Wd) : V := .str (SX.S w)
def kvsOf (L : List Wd) : List (Key × V) := L.zipIdx.map fun p => (Sum.inr (SX.S p.1), .int p.2)
def shelfFs (a d b : Addr) (S : Sg) (g : Int) : List (Str × V) := [("setting", .ref a), ("is_hidden", .bl S.hid), ("by_word", .ref d), ("by_number", .ref b), ("grown_now", .int g)]
/-- the shelf at s, made over what H0 held -/
def ShAt (K : PySem.W.Frag) (H0 H : Hp) (s a : Addr) (S : Sg) (st : Shf) : Prop := Same H0 H ∧ H0 s = none ∧ SetAt K H0 a S ∧ ∃ dx d b, H0 d = none ∧ H0 b = none ∧
  H s = some (.ins (cShelf K) dx (shelfFs a d b S st.g)) ∧ H d = some (.dK (kvsOf st.ws)) ∧ H b = some (.lst (st.ws.map strW))
theorem valV_zip {w : Wd} : ∀ (L : List Wd) (o : Nat), valV ((L.zipIdx o).map fun p => ((Sum.inr (SX.S p.1) : Key), V.int p.2)) (Sum.inr (SX.S w)) = if w ∈ L then some (.int ((o + L.idxOf w : Nat) : Int)) else none
  | [], o => rfl
  | x :: L, o => by
    rw [List.zipIdx_cons, List.map_cons]
    by_cases e : x = w
    · subst e
      rw [valV_pos rfl, if_pos List.mem_cons_self, List.idxOf_cons_self, Nat.add_zero]
    · have ne : ¬ ((Sum.inr (SX.S x) : Key) = Sum.inr (SX.S w)) := fun z => e (SX.S_inj (by injection z))
      rw [valV_neg ne, valV_zip L (o + 1)]
      by_cases h : w ∈ L
      · have e2 : (x :: L).idxOf w = L.idxOf w + 1 := by rw [List.idxOf_cons, beq_eq_false_iff_ne.mpr e]; rfl
        rw [if_pos h, if_pos (List.mem_cons_of_mem _ h), e2]
        congr 2
        omega
      · rw [if_neg h, if_neg fun z => (List.mem_cons.mp z).elim (fun z => e z.symm) h]
theorem valV_kvs (L : List Wd) (w : Wd) : valV (kvsOf L) (Sum.inr (SX.S w)) = if w ∈ L then some (.int (L.idxOf w : Nat)) else none := by
  have h := valV_zip (w := w) L 0
  rw [Nat.zero_add] at h
  exact h
theorem kvs_snoc (L : List Wd) (w : Wd) : kvsOf (L ++ [w]) = kvsOf L ++ [(Sum.inr (SX.S w), .int (L.length : Nat))] := by
  unfold kvsOf
  rw [List.zipIdx_append, List.map_append]
  simp
theorem kvs_put {L : List Wd} {w : Wd} (h : w ∉ L) : putK (kvsOf L) (Sum.inr (SX.S w)) (.int (L.length : Nat)) = kvsOf (L ++ [w]) := by
  rw [putK_new _ (by rw [valV_kvs, if_neg h]), kvs_snoc]
theorem kvs_len (L : List Wd) : (kvsOf L).length = L.length := by simp [kvsOf]
theorem idx_low {u : Option Int} {n : Nat} {i : Int} (h : (n : Int) ≤ i) : PySem.Builtin.Str.strSliceIndices (some i) u 1 n = PySem.Builtin.Str.strSliceIndices (some (n : Int)) u 1 n := by
  have h0 : ¬ i < 0 := by omega
  have h1 : ¬ ((n : Int) < 0) := by omega
  simp only [PySem.Builtin.Str.strSliceIndices, h0, h1, if_false, show (1 : Int) > 0 by decide, if_true, Int.min_eq_right h, Int.min_self]
theorem slice_at {l : List Nat} {a b : Int} (h0 : 0 ≤ a) (h1 : a ≤ b) (h2 : b ≤ l.length) : Txt.slice (SX.S l) (some a) (some b) = SX.S ((l.drop a.toNat).take (b - a).toNat) :=
  (beq_iff_eq.mp (PyProof.Rows.slice_closesL (x := SX.S l) h0 h1 (by rw [sx_len]; exact h2))).trans (TL.ext_tl rfl)
theorem cutS_mid {l : List Nat} {a b : Int} (h0 : 0 ≤ a) (h1 : a ≤ b) : cutS (SX.S l) (some a) (some b) = SX.S ((l.drop a.toNat).take (b - a).toNat) := by
  rw [C8.cutS_slice]
  by_cases hb : b ≤ l.length
  · exact slice_at h0 h1 hb
  · have e1 : Txt.slice (SX.S l) (some a) (some b) = Txt.slice (SX.S l) (some a) (some (l.length : Int)) := by
      unfold Txt.slice
      rw [sx_len, SX.idx_hi (by omega)]
    rw [e1]
    by_cases ha : a ≤ l.length
    · rw [slice_at h0 ha (Int.le_refl _), List.take_of_length_le (by rw [List.length_drop]; omega), List.take_of_length_le (by rw [List.length_drop]; omega)]
    · have e2 : Txt.slice (SX.S l) (some a) (some (l.length : Int)) = Txt.slice (SX.S l) (some (l.length : Int)) (some (l.length : Int)) := by
        unfold Txt.slice
        rw [sx_len, idx_low (by omega)]
      rw [e2, slice_at (by omega) (Int.le_refl _) (Int.le_refl _), List.drop_eq_nil_of_le (by omega), List.drop_eq_nil_of_le (by omega), List.take_nil, List.take_nil]

/-! ### the pen: what draws -/
/-- a pen at p, its cells at c: at most n draws begun -/
def PenB (H : Hp) (p c : Addr) (n : Int) : Prop := ∃ (cells : List Int) (b r : Int), H p = some (.lst [.ref c, .int b, .int r]) ∧ H c = some (.lst (cells.map V.int)) ∧ 0 ≤ b ∧ b ≤ n ∧ 0 ≤ r
/-- all but p is kept -/
def Keep (p : Addr) (H H' : Hp) : Prop := ∀ q o, q ≠ p → H q = some o → H' q = some o
section
variable {H H' H'' H1 H2 : Hp} {p c q : Addr} {n n' : Int} {o : HO}
theorem Keep.refl (p : Addr) (H : Hp) : Keep p H H := fun _ _ _ h => h
theorem Keep.trans (a : Keep p H H1) (b : Keep p H1 H2) : Keep p H H2 := fun q o n h => b q o n (a q o n h)
theorem Keep.upd (a : Keep p H H1) : Keep p H (L2.upd H1 p o) := fun q u n h => by
  rw [upd_ne n]
  exact a q u n h
theorem Keep.new (a : Keep p H H1) (hq : H q = none) : Keep p H (L2.upd H1 q o) := fun b u n h => by
  rw [upd_ne (ne_of_none h hq)]
  exact a b u n h
theorem PenB.of {cells : List Int} {b r : Int} (hp : H p = some (.lst [.ref c, .int b, .int r])) (hc : H c = some (.lst (cells.map V.int))) (h0 : 0 ≤ b) (h1 : b ≤ n) (h2 : 0 ≤ r) : PenB H p c n := ⟨cells, b, r, hp, hc, h0, h1, h2⟩
theorem pen_ne {cells : List Int} {b r : Int} (hp : H p = some (.lst [.ref c, .int b, .int r])) (hc : H c = some (.lst (cells.map V.int))) : c ≠ p := ne_of hc hp (by
  intro e
  injection e with e
  cases cells with
  | nil => cases e
  | cons a r => simp at e)
theorem PenB.ne (h : PenB H p c n) : c ≠ p := by
  obtain ⟨cells, b, r, h1, h2, _⟩ := h
  exact pen_ne h1 h2
theorem PenB.mono (h : PenB H p c n) (hn : n ≤ n') : PenB H p c n' := by
  obtain ⟨cells, b, r, h1, h2, h3, h4, h5⟩ := h
  exact ⟨cells, b, r, h1, h2, h3, by omega, h5⟩
theorem PenB.upd' (h : PenB H p c n) (np : q ≠ p) (nc : q ≠ c) : PenB (L2.upd H q o) p c n := by
  obtain ⟨cells, b, r, h1, h2, h3, h4, h5⟩ := h
  exact ⟨cells, b, r, by rw [upd_ne np.symm]; exact h1, by rw [upd_ne nc.symm]; exact h2, h3, h4, h5⟩
theorem PenB.free (h : PenB H p c n) (hq : H q = none) : q ≠ p := by
  obtain ⟨cells, b, r, h1, _⟩ := h
  exact (ne_of_none h1 hq).symm
theorem PenB.freeC (h : PenB H p c n) (hq : H q = none) : q ≠ c := by
  obtain ⟨cells, b, r, _, h1, _⟩ := h
  exact (ne_of_none h1 hq).symm
theorem PenB.new (h : PenB H p c n) (hq : H q = none) : PenB (L2.upd H q o) p c n := h.upd' (h.free hq) (h.freeC hq)
theorem PenB.same (h : PenB H p c n) (s : Same H H') : PenB H' p c n := by
  obtain ⟨cells, b, r, h1, h2, h3, h4, h5⟩ := h
  exact ⟨cells, b, r, s _ _ h1, s _ _ h2, h3, h4, h5⟩
theorem Keep.free (e : Keep p H H') (n : q ≠ p) (h : H' q = none) : H q = none := by
  cases h1 : H q with
  | none => rfl
  | some o => rw [e q o n h1] at h; cases h
/-- a new object behind draws -/
theorem Keep.alloc (e : Keep p H H') (hp : PenB H' p c n) (hq : H' q = none) : Keep p H (L2.upd H' q o) := e.new (e.free (hp.free hq) hq)
theorem Keep.same (e : Keep p H H') (s : Same H' H'') : Keep p H H'' := fun q o n h => s _ _ (e q o n h)
end
theorem draw_cond {y b k1 k2 k3 : Int} (hy0 : 0 ≤ y) (hy : y < 2147483648) (hb : 0 ≤ b) (hb1 : b ≤ 100000) (h1 : 0 ≤ k1 ∧ k1 ≤ 1000000) (h2 : 0 ≤ k2 ∧ k2 ≤ 1000000) (h3 : 0 ≤ k3 ∧ k3 ≤ 1000000) : CPow (y * (2 * b + k1) + k2 * b * b + k3) 3 := by
  have e1 : y * (2 * b + k1) ≤ 2147483648 * 1200000 := Int.mul_le_mul (by omega) (by omega) (by omega) (by omega)
  have e0 : 0 ≤ y * (2 * b + k1) := Int.mul_nonneg hy0 (by omega)
  have e2 : k2 * b ≤ 1000000 * 100000 := Int.mul_le_mul (by omega) hb1 hb (by omega)
  have e3 : 0 ≤ k2 * b := Int.mul_nonneg h2.1 hb
  have e4 : k2 * b * b ≤ (1000000 * 100000) * 100000 := Int.mul_le_mul e2 hb1 hb (by omega)
  have e5 : 0 ≤ k2 * b * b := Int.mul_nonneg e3 hb
  exact ⟨by decide, by decide, by omega⟩
def spDraw : Sp := fun vs H Q _ => ∃ (p c : Addr) (m n : Int), vs = [.ref p, .int m] ∧ 0 < m ∧ m.natAbs.log2 < 9000 ∧ PenB H p c n ∧ n ≤ 100000 ∧
  ∀ (d : Int) (H' : Hp), 0 ≤ d → d < m → Keep p H H' → PenB H' p c (n + 1) → Q (.int d) H'
section
variable {P : Program} {w : World} {K : PySem.W.Frag} {mg : Str → Option Value} {base : Heap}
theorem d_law_draw (T : Txt K mg) (F : FD K mg "_law_draw" s_law_draw) : Dn P w K mg base 1 "_law_draw" s_law_draw ["pen", "many"] (spDraw) := by
  refine dn_of F (fun _ _ _ _ _ _ us hl => match us, hl with | [_, _], _ => rfl) sc_law_draw (fun vs H Q E h => ?_) (fun fa cdv A outer s H vs Q E hr h => ?_)
  · obtain ⟨p, c, m, n, rfl, _⟩ := h
    rfl
  · obtain ⟨p, c, m, n, rfl, hm, hm2, ⟨cells, b, r, hp, hc, hb, hbn, hr0⟩, hn, k⟩ := h
    have ncp : c ≠ p := pen_ne hp hc
    refine ⟨_, PSs.nox (pss_cons (ps_if (pt_cmpR op_gt (pe_ix ix_list (pv 0) pe_int (fun _ _ => rfl)) pe_int (nomark _))
 (pss_cons (ps_set (i := 2) sc_law_draw.nd rfl (Or.inl rfl) (pe_op op_mod (pe_callTy cl_int1 (by rfl) T.n_int (by decide +kernel) (pa_cons (pe_ix ix_list (pv 0) pe_int (fun _ _ => rfl)) pa_nil)) (pv 1)))
 (pss_cons (ps_asg (pe_op op_fdivW (pe_callTy cl_int1 (by rfl) T.n_int (by decide +kernel) (pa_cons (pe_ix ix_list (pv 0) pe_int (fun _ _ => rfl)) pa_nil)) (pv 1)) (pg_sub (pv 0) pe_int set_list))
 (pss_one (ps_ret (pv 2)))))
 pss_nil)
 (pss_cons (ps_set (i := 3) sc_law_draw.nd rfl (Or.inl rfl) (pe_ix ix_list (pv 0) pe_int (fun _ _ => rfl)))
 (pss_cons (ps_asg (pe_op op_add (pv 3) pe_int) (pg_sub (pv 0) pe_int set_list))
 (pss_cons (ps_set (i := 4) sc_law_draw.nd rfl (Or.inl rfl) (pe_op op_add (pe_op op_mulA pe_int (pv 3)) pe_int))
 (pss_cons (ps_if (pt_cmpR (op_neD hr.units) (pe_ix ix_list (pv 0) pe_int (fun _ _ => rfl)) (pe_lst pa_nil) (nomark _))
 (pss_one (ps_set (i := 4) sc_law_draw.nd rfl (Or.inl rfl) (pe_ix ix_list (pe_ix ix_list (pv 0) pe_int (fun _ _ => rfl)) (pe_op op_mod (pe_callTy cl_int1 (by rfl) T.n_int (by decide +kernel) (pa_cons (pv 3) pa_nil)) (pe_callB cl_lenQ (by rfl) T.n_len (by decide +kernel) (pa_cons (pe_ix ix_list (pv 0) pe_int (fun _ _ => rfl)) pa_nil))) (fun _ _ => rfl))))
 pss_nil)
 (pss_cons (ps_if (PW.pt (pw_and (pt_cmpR op_lt (pv 3) (pe_callB cl_lenQ (by rfl) T.n_len (by decide +kernel) (pa_cons (pe_ix ix_list (pv 0) pe_int (fun _ _ => rfl)) pa_nil)) (nomark _)) (pw_and1 (pt_cmpR op_ge (pe_callB cl_abs (by rfl) T.n_abs (by decide +kernel) (pa_cons (pv 4) pa_nil)) (pe_op op_pow pe_int pe_int) (nomark _)))))
 (pss_cons (ps_set (i := 5) sc_law_draw.nd rfl (Or.inl rfl) (pe_op op_add (pe_op op_mulA pe_int (pe_op op_sub (pe_callB cl_abs (by rfl) T.n_abs (by decide +kernel) (pa_cons (pv 4) pa_nil)) (pe_op op_pow pe_int pe_int))) (pe_callTy cl_int1 (by rfl) T.n_int (by decide +kernel) (pa_cons (pe_cmpR op_lt (pv 4) pe_int (nomark _)) pa_nil))))
 (pss_cons (ps_asg (pe_op op_fdivW (pe_callTy cl_int1 (by rfl) T.n_int (by decide +kernel) (pa_cons (pv 5) pa_nil)) (pv 1)) (pg_sub (pv 0) pe_int set_list))
 (pss_one (ps_ret (pe_op op_mod (pe_callTy cl_int1 (by rfl) T.n_int (by decide +kernel) (pa_cons (pv 5) pa_nil)) (pv 1))))))
 pss_nil)
 (pss_cons (ps_set (i := 6) sc_law_draw.nd rfl (Or.inl rfl) (pe_op op_mod (pe_callTy cl_int1 (by rfl) T.n_int (by decide +kernel) (pa_cons (pe_op op_pow (pe_op op_add (pe_op op_add (pe_op op_mod (pe_callTy cl_int1 (by rfl) T.n_int (by decide +kernel) (pa_cons (pv 4) pa_nil)) pe_int) (pe_op op_mulA pe_int (pv 3))) pe_int) pe_int) pa_nil)) pe_int))
 (pss_cons (ps_set (i := 6) sc_law_draw.nd rfl (Or.inl rfl) (pe_op op_mod (pe_callTy cl_int1 (by rfl) T.n_int (by decide +kernel) (pa_cons (pe_op op_pow (pe_op op_add (pe_op op_add (pe_op op_mulA (pv 6) (pe_op op_add (pe_op op_mulA pe_int (pv 3)) pe_int)) (pe_op op_mulA (pe_op op_mulA pe_int (pv 3)) (pv 3))) pe_int) pe_int) pa_nil)) pe_int))
 (pss_one (ps_ret (pe_op op_mod (pe_callTy cl_int1 (by rfl) T.n_int (by decide +kernel) (pa_cons (pe_op op_fdivW (pv 6) pe_int) pa_nil)) (pv 1)))))))))))), ?_⟩
    refine w_start (σ := [some (.ref p), some (.int m), none, none, none, none, none]) rfl ?_
    with_reducible refine w_seq ?_
    repeat walk_at "st"
    refine w_ite (fun h0 => ?_) (fun h0 => ?_)
    · repeat walk_at "st"
      refine k _ _ (Int.emod_nonneg _ (by omega)) (Int.emod_lt_of_pos _ hm) (Keep.refl p H).upd ?_
      exact PenB.of upd_same (by walk_at "hp") hb (by omega) (Int.ediv_nonneg hr0 (by omega))
    repeat walk_at "st"
    with_reducible refine w_join (fun σ' H' => ∃ x : Int, σ' = [some (.ref p), some (.int m), none, some (.int b), some (.int x), none, none] ∧ H' p = some (.lst [.ref c, .int (b + 1), .int r]) ∧ H' c = some (.lst (cells.map V.int)) ∧ Keep p H H') (fun X hX => ?_) ?_
    · repeat walk_at "st"
      refine ⟨Nat.zero_le _, fun q hq => ?_⟩
      have nqp : p ≠ q := ne_of_none upd_same hq
      have nqc : c ≠ q := ne_of_none (show upd H p (.lst [V.ref c, V.int (b + 1), V.int r]) c = some (.lst (cells.map V.int)) by walk_at "hp") hq
      have hq0 : H q = none := by
        rw [upd_ne nqp.symm] at hq
        exact hq
      refine w_neNil (ns := cells) (by walk_at "hp") (by walk_at "hp") ?_
      repeat walk_at "st"
      refine w_itN (fun h1 => ?_) (fun h1 => ?_)
      · have hl : 0 < cells.length := List.length_pos_iff.mpr h1
        repeat walk_at "st"
        refine w_I (by rw [List.length_map]; omega) ?_
        refine w_ixL (xs := cells.map V.int) (by walk_at "hp") (atI_map (Int.emod_nonneg _ (by rw [List.length_map]; omega)) (by rw [List.length_map]; exact Int.emod_lt_of_pos _ (by omega))) ?_
        repeat walk_at "st"
        exact hX _ _ ⟨_, rfl, by walk_at "hp", by walk_at "hp", ((Keep.refl p H).upd).new hq0⟩
      · repeat walk_at "st"
        exact hX _ _ ⟨_, rfl, by walk_at "hp", by walk_at "hp", ((Keep.refl p H).upd).new hq0⟩
    · rintro σ' H' ⟨x, rfl, hp', hc', kp⟩
      with_reducible refine w_join (fun σ1 H1 => σ1 = [some (.ref p), some (.int m), none, some (.int b), some (.int x), none, none] ∧ H1 = H') (fun X hX => ?_) ?_
      · repeat walk_at "st"
        refine w_ite (fun h1 => ?_) (fun h1 => ?_)
        · repeat walk_at "st"
          refine w_ite (fun h2 => ?_) (fun h2 => ?_)
          · repeat walk_at "st"
            refine k _ _ (Int.emod_nonneg _ (by omega)) (Int.emod_lt_of_pos _ hm) kp.upd ?_
            refine PenB.of upd_same (by walk_at "hp") (by omega) (by omega) (Int.ediv_nonneg ?_ (by omega))
            have h3 : (10 : Int) ^ (18 : Int).toNat ≤ (if x < 0 then -x else x) := h2
            split <;> split <;> omega
          · repeat walk_at "st"
            exact hX _ _ ⟨rfl, rfl⟩
        · repeat walk_at "st"
          exact hX _ _ ⟨rfl, rfl⟩
      · rintro σ1 H1 ⟨rfl, rfl⟩
        repeat walk_at "st"
        refine w_I (draw_cond (Int.emod_nonneg _ (by decide)) (Int.lt_trans (Int.emod_lt_of_pos _ (by decide)) (by decide)) hb (by omega) (by decide) (by decide) (by decide)) ?_
        repeat walk_at "st"
        exact k _ _ (Int.emod_nonneg _ (by omega)) (Int.emod_lt_of_pos _ hm) kp (PenB.of hp' hc' (by omega) (by omega) (by omega))
def spPick (K : PySem.W.Frag) : Sp := fun vs H Q _ => ∃ (p c : Addr) (x : V) (xs : List V) (n : Int), vs = [.ref p, x] ∧ Row K H x xs ∧ x ≠ .ref p ∧ 0 < xs.length ∧ xs.length ≤ 1000000 ∧ PenB H p c n ∧ n ≤ 100000 ∧
  ∀ (v : V) (H' : Hp), v ∈ xs → Keep p H H' → PenB H' p c (n + 1) → Q v H'
theorem Row.keep {H H' : Hp} {p : Addr} {x : V} {xs : List V} (e : Keep p H H') (h : Row K H x xs) (n : x ≠ .ref p) : Row K H' x xs := by
  cases h with
  | lst h =>
    rename_i a
    have na : a ≠ p := fun z => n (by rw [z])
    refine .lst ?_
    rcases h with (h | ⟨o, h⟩) | h
    · exact .inl (.inl (e _ _ na h))
    · exact .inl (.inr ⟨o, e _ _ na h⟩)
    · exact .inr h
  | tup h =>
    rename_i a
    have na : a ≠ p := fun z => n (by rw [z])
    refine .tup ?_
    rcases h with (h | ⟨o, h⟩) | h
    · exact .inl (.inl (e _ _ na h))
    · exact .inl (.inr ⟨o, e _ _ na h⟩)
    · exact .inr h
  | str h => exact .str h
theorem log2_small {n : Nat} (h : n ≤ 1000000) : ((n : Nat) : Int).natAbs.log2 < 9000 := by
  rw [Int.natAbs_natCast]
  exact PySem.Flt.log2_lt_of (by decide) (Nat.lt_of_le_of_lt h (by decide +kernel))
theorem d_law_pick (T : Txt K mg) (F : FD K mg "_law_pick" s_law_pick) (c_law_draw : Dn P w K mg base 1 "_law_draw" s_law_draw ["pen", "many"] (spDraw)) : Dn P w K mg base 2 "_law_pick" s_law_pick ["pen", "some"] (spPick K) := by
  refine dn_of F (fun _ _ _ _ _ _ us hl => match us, hl with | [_, _], _ => rfl) sc_law_pick (fun vs H Q E h => ?_) (fun fa cdv A outer s H vs Q E hr h => ?_)
  · obtain ⟨p, c, x, xs, n, rfl, _⟩ := h
    rfl
  · obtain ⟨p, c, x, xs, n, rfl, rw_, nx, l0, l1, hp, hn, k⟩ := h
    refine ⟨_, PSs.nox (pss_one (ps_ret (pe_ix ix_seq (pv 1) (pe_d c_law_draw hr (by decide) rfl (pa_cons (pv 0) (pa_cons (pe_callB cl_lenA (by rfl) T.n_len (by decide +kernel) (pa_cons (pv 1) pa_nil)) pa_nil))) (fun _ _ => rfl)))), ?_⟩
    refine w_start (σ := [some (.ref p), some x]) rfl ?_
    repeat walk_at "st"
    refine w_lenA rw_ ?_
    repeat walk_at "st"
    refine ⟨p, c, (xs.length : Int), n, rfl, by omega, log2_small l1, hp, hn, fun d H' d0 d1 e hp' => ?_⟩
    exact w_ixA (Row.keep e rw_ nx) d0 d1 fun v hv _ => k v H' hv e hp'
/-- .. of a list that was just made -/
theorem pick_new {K : PySem.W.Frag} {H : Hp} {p c q : Addr} {n : Int} {xs : List V} {Q : VK} (hq : H q = none) (hp : PenB H p c n) (hn : n ≤ 100000) (l0 : 0 < xs.length) (l1 : xs.length ≤ 1000000)
    (cn : ∀ (v : V) (H' : Hp), v ∈ xs → Keep p H H' → PenB H' p c (n + 1) → Q v H') : spPick K ([.ref p, .ref q] ++ []) (L2.upd H q (.lst xs)) Q E0 :=
  ⟨p, c, .ref q, xs, n, rfl, .lst (SqL.of upd_same), fun e => hp.free hq (by injection e), l0, l1, hp.new hq, hn, fun v H' hv e h => cn v H' hv (((Keep.refl p H).alloc hp hq).trans e) h⟩
def spPen (K : PySem.W.Frag) : Sp := fun vs H Q _ => ∃ (a : Addr) (ns : List Int), vs = [.ref a] ∧ SqL K H a (ns.map V.int) ∧
  ∀ (p c : Addr) (H' : Hp), H p = none → Same H H' → PenB H' p c 0 → Q (.ref p) H'
theorem cutV_ints (ns : List Int) (lo hi : Option Int) : ∃ ms : List Int, cutV (ns.map V.int) lo hi = ms.map V.int := by
  unfold cutV
  rw [← List.map_drop, ← List.map_take]
  exact ⟨_, rfl⟩
theorem d_law_pen (T : Txt K mg) (F : FD K mg "_law_pen" s_law_pen) : Dn P w K mg base 1 "_law_pen" s_law_pen ["script"] (spPen K) := by
  refine dn_of F (fun _ _ _ _ _ _ us hl => match us, hl with | [_], _ => rfl) sc_law_pen (fun vs H Q E h => ?_) (fun fa cdv A outer s H vs Q E hr h => ?_)
  · obtain ⟨a, ns, rfl, _⟩ := h
    rfl
  · obtain ⟨a, ns, rfl, hS, k⟩ := h
    refine ⟨_, PSs.nox (pss_one (ps_ret (pe_lst (pa_cons (pe_callTy cl_listOf (by rfl) T.n_list (by decide +kernel) (pa_cons (pe_slice sl_list (pv 0) po_none (po_some pe_int)) pa_nil)) (pa_cons pe_int (pa_cons pe_int pa_nil)))))), ?_⟩
    refine w_start (σ := [some (.ref a)]) rfl ?_
    repeat walk_at "st"
    refine w_slL hS fun q hq => ?_
    obtain ⟨ms, e⟩ := cutV_ints ns none (some 63)
    rw [e]
    repeat walk_at "st"
    refine w_listOfK (SqL.of upd_same) fun r hr' => ?_
    repeat walk_at "st"
    refine ⟨by walk_at "len", fun p hp => ?_⟩
    have nrp : r ≠ p := ne_of_none upd_same hp
    have nqr : q ≠ r := ne_of_none upd_same hr'
    have r0 : H r = none := by
      rw [upd_ne nqr.symm] at hr'
      exact hr'
    have nqp : q ≠ p := ne_of_none (show upd (upd H q (.lst (ms.map V.int))) r (.lst (ms.map V.int)) q = some (.lst (ms.map V.int)) by walk_at "hp") hp
    have p0 : H p = none := by
      rw [upd_ne nrp.symm, upd_ne nqp.symm] at hp
      exact hp
    refine k p r _ p0 (fun b o hb => ?_) (PenB.of upd_same (by walk_at "hp") (by decide) (by decide) (by decide))
    rw [upd_ne (ne_of_none hb p0), upd_ne (ne_of_none hb r0), upd_ne (ne_of_none hb hq)]
    exact hb
end

/-! ### limits.py: what a limit lets -/
def spTrue3 : Sp := fun vs H Q _ => ∃ x y z, vs = [x, y, z] ∧ Q (.bl true) H
def spFalse2 : Sp := fun vs H Q _ => ∃ x y, vs = [x, y] ∧ Q (.bl false) H
def spLets (K : PySem.W.Frag) (k : LimK) : Sp := fun vs H Q _ => ∃ l n g z, vs = [.ref l, .int g, .int z] ∧ LimAt K H l k n ∧ Q (.bl (letsK k n g z)) H
def spEnds (K : PySem.W.Frag) (k : LimK) : Sp := fun vs H Q _ => ∃ l n g, vs = [.ref l, .int g] ∧ LimAt K H l k n ∧ Q (.bl (endsK k n g)) H
def limOk : LimK → Int → Prop
  | .free, n => n = 0
  | .short, n => 1 ≤ n ∧ n ≤ 64
  | .cleared, n => 1 ≤ n ∧ n ≤ 4096
  | .standing, n => 0 ≤ n ∧ n ≤ 4096
def limArgs : LimK → Int → List V
  | .free, _ => []
  | _, n => [.int n]
def spLimInit (K : PySem.W.Frag) (k : LimK) : Sp := fun vs H Q _ => ∃ x dx n, vs = .ref x :: limArgs k n ∧ limOk k n ∧ H x = some (.ins (cLim K k) dx []) ∧ Q .non (upd H x (.ins (cLim K k) dx (limFs k n)))
section
variable {P : Program} {w : World} {K : PySem.W.Frag} {mg : Str → Option Value} {base : Heap}
theorem d_Limit_lets (T : Txt K mg) {f : Addr} (F : FA K "lets" "Limit.lets" s_Limit_lets [] f) : Fr P w K mg base 1 (f) ["self", "grown", "size"] [] (spTrue3) := by
  refine fr_of0 F (fun _ _ _ _ _ _ us hl => match us, hl with | [_, _, _], _ => rfl) sc_Limit_lets (fun vs H Q E h => ?_) (fun fa cdv A outer s H vs Q E hr h => ?_)
  · obtain ⟨x, y, z, rfl, _⟩ := h
    rfl
  · obtain ⟨x, y, z, rfl, k⟩ := h
    refine ⟨_, PSs.nox (pss_one (ps_ret pe_bl)), ?_⟩
    refine w_start (σ := [some x, some y, some z]) rfl ?_
    repeat walk_at "st"
    exact k
theorem d_Short_lets (T : Txt K mg) {f : Addr} (F : FA K "lets" "Short.lets" s_Short_lets [] f) : Fr P w K mg base 1 (f) ["self", "grown", "size"] [] (spLets K .short) := by
  refine fr_of0 F (fun _ _ _ _ _ _ us hl => match us, hl with | [_, _, _], _ => rfl) sc_Short_lets (fun vs H Q E h => ?_) (fun fa cdv A outer s H vs Q E hr h => ?_)
  · obtain ⟨l, n, g, z, rfl, _⟩ := h
    rfl
  · obtain ⟨l, n, g, z, rfl, ⟨dx, hl⟩, k⟩ := h
    refine ⟨_, PSs.nox (pss_one (ps_ret (pe_cmpR op_le (pv 2) (pe_fld (pv 0) rfl) (nomark _)))), ?_⟩
    refine w_start (σ := [some (.ref l), some (.int g), some (.int z)]) rfl ?_
    repeat walk_at "st"
    exact k
theorem d_Standing_lets (T : Txt K mg) {f : Addr} (F : FA K "lets" "Standing.lets" s_Standing_lets [] f) : Fr P w K mg base 1 (f) ["self", "grown", "size"] [] (spLets K .standing) := by
  refine fr_of0 F (fun _ _ _ _ _ _ us hl => match us, hl with | [_, _, _], _ => rfl) sc_Standing_lets (fun vs H Q E h => ?_) (fun fa cdv A outer s H vs Q E hr h => ?_)
  · obtain ⟨l, n, g, z, rfl, _⟩ := h
    rfl
  · obtain ⟨l, n, g, z, rfl, ⟨dx, hl⟩, k⟩ := h
    refine ⟨_, PSs.nox (pss_one (ps_ret (pe_cmpR op_lt (pv 1) (pe_fld (pv 0) rfl) (nomark _)))), ?_⟩
    refine w_start (σ := [some (.ref l), some (.int g), some (.int z)]) rfl ?_
    repeat walk_at "st"
    exact k
theorem d_Limit_ends_at (T : Txt K mg) {f : Addr} (F : FA K "ends_at" "Limit.ends_at" s_Limit_ends_at [] f) : Fr P w K mg base 1 (f) ["self", "grown"] [] (spFalse2) := by
  refine fr_of0 F (fun _ _ _ _ _ _ us hl => match us, hl with | [_, _], _ => rfl) sc_Limit_ends_at (fun vs H Q E h => ?_) (fun fa cdv A outer s H vs Q E hr h => ?_)
  · obtain ⟨x, y, rfl, _⟩ := h
    rfl
  · obtain ⟨x, y, rfl, k⟩ := h
    refine ⟨_, PSs.nox (pss_one (ps_ret pe_bl)), ?_⟩
    refine w_start (σ := [some x, some y]) rfl ?_
    repeat walk_at "st"
    exact k
theorem d_Cleared_ends_at (T : Txt K mg) {f : Addr} (F : FA K "ends_at" "Cleared.ends_at" s_Cleared_ends_at [] f) : Fr P w K mg base 1 (f) ["self", "grown"] [] (spEnds K .cleared) := by
  refine fr_of0 F (fun _ _ _ _ _ _ us hl => match us, hl with | [_, _], _ => rfl) sc_Cleared_ends_at (fun vs H Q E h => ?_) (fun fa cdv A outer s H vs Q E hr h => ?_)
  · obtain ⟨l, n, g, rfl, _⟩ := h
    rfl
  · obtain ⟨l, n, g, rfl, ⟨dx, hl⟩, k⟩ := h
    refine ⟨_, PSs.nox (pss_one (ps_ret (pe_cmpR op_ge (pv 1) (pe_fld (pv 0) rfl) (nomark _)))), ?_⟩
    refine w_start (σ := [some (.ref l), some (.int g)]) rfl ?_
    repeat walk_at "st"
    exact k
theorem d_Free___init__ (T : Txt K mg) {f : Addr} (F : FA K "__init__" "Free.__init__" s_Free___init__ [] f) : Fr P w K mg base 1 (f) ["self"] [] (spLimInit K .free) := by
  refine fr_of0 F (fun _ _ _ _ _ _ us hl => match us, hl with | [_], _ => rfl) sc_Free___init__ (fun vs H Q E h => ?_) (fun fa cdv A outer s H vs Q E hr h => ?_)
  · obtain ⟨x, dx, n, rfl, _⟩ := h
    rfl
  · obtain ⟨x, dx, n, rfl, _, hx, k⟩ := h
    refine ⟨_, PSs.nox (pss_one (ps_fld (pv 0) pe_non rfl)), ?_⟩
    refine w_start (σ := [some (.ref x)]) rfl ?_
    repeat walk_at "st"
    exact k
theorem bet_of {lo hi n : Int} (h1 : lo ≤ n) (h2 : n ≤ hi) : betV lo hi (.int n) = true := by
  show (decide (lo ≤ n) && decide (n ≤ hi)) = true
  rw [decide_eq_true h1, decide_eq_true h2]
  rfl
theorem w_cval {K : PySem.W.Frag} {σ : L2.St} {H : Hp} {Q : VK} {ta : TE} {C : Addr} {f : Str} {v : V} (c : ClsCon K C f v) (h : ta σ H fun x H1 => x = .ref C ∧ Q v H1) (m : ∀ {R R' : VK}, (∀ x H1, R x H1 → R' x H1) → ta σ H R → ta σ H R') : ClX.tCVal K ta f σ H Q := by
  obtain ⟨mc, u, c1, c2⟩ := c
  exact m (fun x H1 ⟨e, q⟩ => ⟨C, mc, v, u, e, c1, c2, q⟩) h
theorem d_Short___init__ (T : Txt K mg) {f : Addr} (F : FA K "__init__" "Short.__init__" s_Short___init__ [] f) (c_is_between : Dn P w K mg base 2 "is_between" s_is_between ["value", "least", "most"] (spBetween)) : Fr P w K mg base 3 (f) ["self", "longest"] [] (spLimInit K .short) := by
  refine fr_of0 F (fun _ _ _ _ _ _ us hl => match us, hl with | [_, _], _ => rfl) sc_Short___init__ (fun vs H Q E h => ?_) (fun fa cdv A outer s H vs Q E hr h => ?_)
  · obtain ⟨x, dx, n, rfl, _⟩ := h
    rfl
  · obtain ⟨x, dx, n, rfl, hn, hx, k⟩ := h
    refine ⟨_, PSs.nox (pss_cons (ps_if (pt_not (pt_val (pe_d c_is_between hr (by decide) rfl (pa_cons (pv 1) (pa_cons pe_int (pa_cons (ClX.pe_cval (pe_gc rfl (T.gc_lim .short))) pa_nil)))) (by intro _; rfl)))
 (pss_one ps_never)
 pss_nil)
 (pss_cons (ps_fld (pv 0) (pv 1) rfl)
 (pss_one (ps_fld (pv 0) (pv 1) rfl)))), ?_⟩
    refine w_start (σ := [some (.ref x), some (.int n)]) rfl ?_
    with_reducible refine w_seq ?_
    repeat walk_at "st"
    refine w_cval T.most_s ⟨rfl, ?_⟩ fun h => h _ _
    repeat walk_at "st"
    refine ⟨.int n, "int", 1, 64, rfl, .int n, ?_⟩
    rw [bet_of hn.1 hn.2]
    repeat walk_at "st"
    rw [upd_upd]
    exact k
theorem d_Cleared___init__ (T : Txt K mg) {f : Addr} (F : FA K "__init__" "Cleared.__init__" s_Cleared___init__ [] f) (c_is_between : Dn P w K mg base 2 "is_between" s_is_between ["value", "least", "most"] (spBetween)) : Fr P w K mg base 3 (f) ["self", "many"] [] (spLimInit K .cleared) := by
  refine fr_of0 F (fun _ _ _ _ _ _ us hl => match us, hl with | [_, _], _ => rfl) sc_Cleared___init__ (fun vs H Q E h => ?_) (fun fa cdv A outer s H vs Q E hr h => ?_)
  · obtain ⟨x, dx, n, rfl, _⟩ := h
    rfl
  · obtain ⟨x, dx, n, rfl, hn, hx, k⟩ := h
    refine ⟨_, PSs.nox (pss_cons (ps_if (pt_not (pt_val (pe_d c_is_between hr (by decide) rfl (pa_cons (pv 1) (pa_cons pe_int (pa_cons (ClX.pe_cval (pe_gc rfl (T.gc_Counted))) pa_nil)))) (by intro _; rfl)))
 (pss_one ps_never)
 pss_nil)
 (pss_cons (ps_fld (pv 0) (pv 1) rfl)
 (pss_one (ps_fld (pv 0) (pv 1) rfl)))), ?_⟩
    refine w_start (σ := [some (.ref x), some (.int n)]) rfl ?_
    with_reducible refine w_seq ?_
    repeat walk_at "st"
    refine w_cval T.most_c ⟨rfl, ?_⟩ fun h => h _ _
    repeat walk_at "st"
    refine ⟨.int n, "int", 1, 4096, rfl, .int n, ?_⟩
    rw [bet_of hn.1 hn.2]
    repeat walk_at "st"
    rw [upd_upd]
    exact k
theorem d_Standing___init__ (T : Txt K mg) {f : Addr} (F : FA K "__init__" "Standing.__init__" s_Standing___init__ [] f) (c_is_between : Dn P w K mg base 2 "is_between" s_is_between ["value", "least", "most"] (spBetween)) : Fr P w K mg base 3 (f) ["self", "many"] [] (spLimInit K .standing) := by
  refine fr_of0 F (fun _ _ _ _ _ _ us hl => match us, hl with | [_, _], _ => rfl) sc_Standing___init__ (fun vs H Q E h => ?_) (fun fa cdv A outer s H vs Q E hr h => ?_)
  · obtain ⟨x, dx, n, rfl, _⟩ := h
    rfl
  · obtain ⟨x, dx, n, rfl, hn, hx, k⟩ := h
    refine ⟨_, PSs.nox (pss_cons (ps_if (pt_not (pt_val (pe_d c_is_between hr (by decide) rfl (pa_cons (pv 1) (pa_cons pe_int (pa_cons (ClX.pe_cval (pe_gc rfl (T.gc_Counted))) pa_nil)))) (by intro _; rfl)))
 (pss_one ps_never)
 pss_nil)
 (pss_cons (ps_fld (pv 0) (pv 1) rfl)
 (pss_one (ps_fld (pv 0) (pv 1) rfl)))), ?_⟩
    refine w_start (σ := [some (.ref x), some (.int n)]) rfl ?_
    with_reducible refine w_seq ?_
    repeat walk_at "st"
    refine w_cval T.most_c ⟨rfl, ?_⟩ fun h => h _ _
    repeat walk_at "st"
    refine ⟨.int n, "int", 0, 4096, rfl, .int n, ?_⟩
    rw [bet_of hn.1 hn.2]
    repeat walk_at "st"
    rw [upd_upd]
    exact k
theorem lets_free : ∀ vs H Q E, spLets K .free vs H Q E → spTrue3 vs H Q E := fun _ _ _ _ ⟨_, _, _, _, e, _, q⟩ => ⟨_, _, _, e, q⟩
theorem lets_cleared : ∀ vs H Q E, spLets K .cleared vs H Q E → spTrue3 vs H Q E := fun _ _ _ _ ⟨_, _, _, _, e, _, q⟩ => ⟨_, _, _, e, q⟩
theorem ends_free : ∀ vs H Q E, spEnds K .free vs H Q E → spFalse2 vs H Q E := fun _ _ _ _ ⟨_, _, _, e, _, q⟩ => ⟨_, _, e, q⟩
theorem ends_short : ∀ vs H Q E, spEnds K .short vs H Q E → spFalse2 vs H Q E := fun _ _ _ _ ⟨_, _, _, e, _, q⟩ => ⟨_, _, e, q⟩
theorem ends_standing : ∀ vs H Q E, spEnds K .standing vs H Q E → spFalse2 vs H Q E := fun _ _ _ _ ⟨_, _, _, e, _, q⟩ => ⟨_, _, e, q⟩
end

/-! ### need_text, settings.py -/
def spNeedT : Sp := fun vs H Q _ => ∃ (l : List Nat) (q : Int), vs = [.str (SX.S l), .int q] ∧ 0 ≤ q ∧ (∀ c ∈ l, c ∈ abcL.take q.toNat) ∧ l.length ≤ 5000 ∧ ∀ H', Same H H' → Q .non H'
def spSetLimit (K : PySem.W.Frag) (h : Bool) : Sp := fun vs H Q _ => ∃ a dx l n, vs = [.ref a] ∧ H a = some (.ins (cSet K h) dx [("letters", .int n), ("own_limit", .ref l)]) ∧ Q (.ref l) H
/-- all but x is kept -/
def spSetInit (K : PySem.W.Frag) (h : Bool) : Sp := fun vs H Q _ => ∃ x dx q lim k n, vs = [.ref x, .int q, lim] ∧ 2 ≤ q ∧ q ≤ 26 ∧ H x = some (.ins (cSet K h) dx []) ∧ ((lim = .non ∧ k = .free ∧ n = 0) ∨ ∃ l, lim = .ref l ∧ LimAt K H l k n) ∧
  ∀ H' l, Keep x H H' → H' x = some (.ins (cSet K h) dx [("letters", .int q), ("own_limit", .ref l)]) → LimAt K H' l k n → Q .non H'
theorem w_enumS {σ : L2.St} {H : Hp} {ta : TA} {R : It → Hp → Prop} (q : ta σ H fun vs H1 => ∃ z, vs = [.str z] ∧ R (Itw (fun _ => True) (signsV z)) H1) : iEnumS ta σ H R := q
theorem w_str1 {a : Str} {P : Str → Prop} (q : P a) : ∃ z, [V.str a] = [.str z] ∧ P z := ⟨a, rfl, q⟩
theorem signs_at {l : List Nat} {i : Nat} {x : V} (h : (signsV (SX.S l))[i]? = some x) : ∃ c, l[i]? = some c ∧ x = .str ⟨#[c]⟩ := by
  unfold signsV at h
  rw [List.getElem?_map] at h
  have e : (SX.S l).cps.toList = l := by simp [SX.S]
  rw [e] at h
  cases hc : l[i]? with
  | none => rw [hc] at h; cases h
  | some c =>
    rw [hc] at h
    exact ⟨c, rfl, (Option.some.inj h).symm⟩
theorem same_free {H H' : Hp} {q : Addr} (e : Same H H') (h : H' q = none) : H q = none := by
  cases h1 : H q with
  | none => rfl
  | some o => rw [e q o h1] at h; cases h
theorem keep_two {H : Hp} {x y dx : Addr} {o u : HO} (h1 : H y = none) (h2 : H dx = none) : Keep x H (upd (upd H dx o) y u) := fun b w _ hb => same_two h1 h2 b w hb
section
variable {P : Program} {w : World} {K : PySem.W.Frag} {mg : Str → Option Value} {base : Heap}
theorem d_need_text (T : Txt K mg) (F : FD K mg "need_text" s_need_text) : Dn P w K mg base 1 "need_text" s_need_text ["value", "letters"] (spNeedT) := by
  refine dn_of F (fun _ _ _ _ _ _ us hl => match us, hl with | [_, _], _ => rfl) sc_need_text (fun vs H Q E h => ?_) (fun fa cdv A outer s H vs Q E hr h => ?_)
  · obtain ⟨l, q, rfl, _⟩ := h
    rfl
  · obtain ⟨l, q, rfl, hq, hl, hn, k⟩ := h
    refine ⟨_, PSs.nox (pss_cons (ps_if (pt_not (pt_val (pe_callB call_isi (by rfl) T.n_isinstance (by decide +kernel) (pa_cons (pv 0) (pa_cons (pe_bltn (v := .ty "str") (by rfl) T.n_str (by decide +kernel) rfl) pa_nil))) (by intro _; rfl)))
 (pss_one ps_never)
 pss_nil)
 (pss_cons (ps_for PassesOwn.never rfl (pi_enumS (by rfl) T.n_enumerate (pa_cons (pv 0) pa_nil)) (pg_tup rfl (pgs_cons (pg_name (i := 2) sc_need_text.nd rfl (Or.inl rfl)) (pgs_cons (pg_name (i := 3) sc_need_text.nd rfl (Or.inl rfl)) pgs_nil)))
 (pss_one (ps_if (pt_cmpR op_notIn1 (pv 3) (pe_slice sl_str (pe_gv rfl T.g_SIGNS) po_none (po_some (pv 1))) (by rfl))
 (pss_one ps_never)
 pss_nil)))
 (pss_one (ps_if (pt_cmpR op_gt (pe_callB cl_lenS (by rfl) T.n_len (by decide +kernel) (pa_cons (pv 0) pa_nil)) (pe_gv rfl T.g_MOST_TEXT) (nomark _))
 (pss_one ps_never)
 pss_nil)))), ?_⟩
    refine w_start (σ := [some (.str (SX.S l)), some (.int q), none, none]) rfl ?_
    with_reducible refine w_seq ?_
    repeat walk_at "st"
    refine w_isiStr (.str _) ?_
    repeat walk_at "st"
    with_reducible refine w_seq ?_
    repeat walk_at "st"
    refine w_enumS ?_
    repeat walk_at "st"
    refine w_str1 ?_
    refine for_itw (fun _ σ' H' => ∃ o1 o2, σ' = [some (.str (SX.S l)), some (.int q), o1, o2] ∧ Same H H') ⟨none, none, rfl, Same.refl H⟩ (fun _ _ _ _ => trivial) ?_ ?_
    · rintro i x t σ' H' hx ⟨o1, o2, rfl, e⟩ ht
      obtain ⟨c, hc, rfl⟩ := signs_at hx
      repeat walk_at "st"
      rw [abc_S, cutS_to hq]
      repeat walk_at "st"
      have hm : c ∈ abcL.take q.toNat := hl c (List.mem_of_getElem? hc)
      refine w_iteF (b := !decide (c ∈ (SX.S (abcL.take q.toNat)).cps.toList)) ?_ ?_
      · have e2 : (SX.S (abcL.take q.toNat)).cps.toList = abcL.take q.toNat := by simp [SX.S]
        rw [e2, decide_eq_true hm]
        rfl
      · repeat walk_at "st"
        exact ⟨_, _, rfl, same_new (same_free e ht) e⟩
    · rintro σ' H' ⟨o1, o2, rfl, e⟩
      repeat walk_at "st"
      refine w_lenS (by rw [sx_len]; have := sizeLine_eq; omega) ?_
      repeat walk_at "st"
      refine w_ite (fun h1 => ?_) (fun _ => ?_)
      · rw [sx_len] at h1
        omega
      · repeat walk_at "st"
        exact k _ e
theorem d_Setting_limit (T : Txt K mg) (h0 : Bool) {f : Addr} (F : FA K "limit" "Setting.limit" s_Setting_limit [] f) : Fr P w K mg base 1 f ["self"] [] (spSetLimit K h0) := by
  refine fr_of0 F (fun _ _ _ _ _ _ us hl => match us, hl with | [_], _ => rfl) sc_Setting_limit (fun vs H Q E h => ?_) (fun fa cdv A outer s H vs Q E hr h => ?_)
  · obtain ⟨a, dx, l, n, rfl, _⟩ := h
    rfl
  · obtain ⟨a, dx, l, n, rfl, ha, k⟩ := h
    refine ⟨_, PSs.nox (pss_one (ps_ret (pe_fld (pv 0) rfl))), ?_⟩
    refine w_start (σ := [some (.ref a)]) rfl ?_
    repeat walk_at "st"
    exact k
theorem len_Setting_init {h0 : Bool} : ∀ vs H Q E, spSetInit K h0 vs H Q E → vs.length = 3 := by
  rintro vs H Q E ⟨x, dx, q, lim, k, n, rfl, _⟩
  rfl
theorem b_Setting_init (T : Txt K mg) (h0 : Bool) (c_need_letters : Dn P w K mg base 3 "need_letters" s_need_letters ["value"] (spNeedL)) (c_Free___init__ : Fr P w K mg base 1 (He.ma K (cLim K .free) "__init__") ["self"] [] (spLimInit K .free)) : BodyOk P w K mg base 4 "Setting.__init__" s_Setting___init__ ["self", "letters", "limit"] (spSetInit K h0) := by
  refine fun fa cdv A outer s H vs Q E hr h => ?_
  obtain ⟨x, dx, q, lim, lk, n, rfl, q1, q2, hx, hlim, k⟩ := h
  refine ⟨_, PSs.nox (pss_cons (ps_expr (pe_d c_need_letters hr (by decide) rfl (pa_cons (pv 1) pa_nil)))
 (pss_cons (ps_if (PW.pt (pw_and (pt_cmpR op_notN' (pv 2) pe_non (nomark _)) (pw_and1 (pt_not (pt_val (pe_callB call_isi (by rfl) T.n_isinstance (by decide +kernel) (pa_cons (pv 2) (pa_cons (pe_gc rfl (T.gc_Limit)) pa_nil))) (by intro _; rfl))))))
 (pss_one ps_never)
 pss_nil)
 (pss_cons (ps_fld (pv 0) (pv 1) rfl)
 (pss_one (ps_fld (pv 0) (pe_ifExp (pt_cmpR op_isN' (pv 2) pe_non (nomark _)) (pe_mk0 c_Free___init__ (T.mk_lim .free) (T.gc_lim .free) hr (by decide) rfl) (pv 2)) rfl))))), ?_⟩
  refine w_start (σ := [some (.ref x), some (.int q), some lim]) rfl ?_
  repeat walk_at "st"
  refine ⟨q, rfl, q1, q2, ?_⟩
  repeat walk_at "st"
  rcases hlim with ⟨rfl, rfl, rfl⟩ | ⟨l, rfl, dl, hl⟩
  · with_reducible refine w_seq ?_
    repeat walk_at "st"
    refine fun l dl hl hdl ne => ⟨l, dl, 0, rfl, rfl, by walk_at "hp", rfl, ?_⟩
    have nx : x ≠ l := ne_of_none (show upd H x _ x = some _ from upd_same) hl
    have nd : x ≠ dl := ne_of_none (show upd H x _ x = some _ from upd_same) hdl
    have hl0 : H l = none := by rw [upd_ne nx.symm] at hl; exact hl
    have hd0 : H dl = none := by rw [upd_ne nd.symm] at hdl; exact hdl
    repeat walk_at "st"
    exact k _ l ((((((Keep.refl x H).upd).new hd0).new hl0).new hl0).upd) (by rw [upd_same]; rfl) ⟨dl, by walk_at "hp"⟩
  · with_reducible refine w_seq ?_
    repeat walk_at "st"
    refine w_isaT hl (T.cl_lim lk) (T.isa_lim lk) ?_
    repeat walk_at "st"
    have nl : l ≠ x := fun e => by
      rw [e, hx] at hl
      injection hl with hl
      injection hl with _ _ hl
      cases lk <;> cases hl
    exact k _ l ((Keep.refl x H).upd.upd) (by rw [upd_same]; rfl) ⟨dl, by walk_at "hp"⟩
theorem init1 (T : Txt K mg) (h0 : Bool) {f : Addr} (F : FA K "__init__" "Setting.__init__" s_Setting___init__ [.non] f) (c_need_letters : Dn P w K mg base 3 "need_letters" s_need_letters ["value"] (spNeedL)) (c_Free___init__ : Fr P w K mg base 1 (He.ma K (cLim K .free) "__init__") ["self"] [] (spLimInit K .free)) : Fr P w K mg base (4 + 1) f ["self", "letters", "limit"] [.non] (spSetInit K h0) :=
  fr_ofD 2 0 F (by simp) rfl (fun _ _ _ _ _ _ _ us its h1 h2 => match us, its, h1, h2 with | [_, _], [_], _, _ => ⟨_, rfl, rfl⟩) sc_Setting___init__ len_Setting_init (b_Setting_init T h0 c_need_letters c_Free___init__)
theorem init2 (T : Txt K mg) (h0 : Bool) {f : Addr} (F : FA K "__init__" "Setting.__init__" s_Setting___init__ [.non] f) (c_need_letters : Dn P w K mg base 3 "need_letters" s_need_letters ["value"] (spNeedL)) (c_Free___init__ : Fr P w K mg base 1 (He.ma K (cLim K .free) "__init__") ["self"] [] (spLimInit K .free)) : Fr P w K mg base (4 + 1) f ["self", "letters", "limit"] [] (spSetInit K h0) :=
  fr_ofD 3 1 F (by simp) rfl (fun _ _ _ _ _ _ _ us its h1 h2 => match us, its, h1, h2 with | [_, _, _], [_], _, _ => ⟨_, rfl, rfl⟩) sc_Setting___init__ len_Setting_init (b_Setting_init T h0 c_need_letters c_Free___init__)
end

/-! ### work.py: the shelf -/
theorem dc_enumL {K : PySem.W.Frag} {σ : L2.St} {H : Hp} {Q : VK} {g : TG} {tt : TT} {tk tv : TE} {ta : TA} {vs : List Nat} (H1 : Hp) (a : Addr) (xs : List V) (Pv : Addr → Nat → Hp → Prop) (hs : ∀ R : List V → Hp → Prop, R [.ref a] H1 → ta σ H R) (ha : SqL K H1 a xs)
    (h0 : ∀ D, H1 D = none → Pv D 0 (upd H1 D (.dK []))) (hl : ∀ D i H, Pv D i H → SqL K H a xs)
    (ht : ∀ D i x T H, H1 D = none → xs[i]? = some x → Pv D i H → H T = none → g (.ref T) (wipe σ vs) (upd H T (.tup [.int (i : Nat), x])) fun σ2 H2 => wipe σ2 vs = wipe σ vs ∧ tt σ2 H2 fun b H3 =>
      if b = true then tk σ2 H3 fun y H4 => tv σ2 H4 fun z H5 => ∃ kvs k, y = kV k ∧ H5 D = some (.dK kvs) ∧ kvs.length < sizeLine ∧ Pv D (i + 1) (upd H5 D (.dK (putK kvs k z))) else Pv D (i + 1) H3)
    (hd : ∀ D H, H1 D = none → Pv D xs.length H → Q (.ref D) H) : tDc (iEnum K ta) g tt tk tv vs σ H Q :=
  hs _ ⟨a, xs, rfl, ha, fun D hD => dc_ite (Pv D) (h0 D hD) (hl D) (fun i x T H => ht D i x T H hD) fun H p => hd D H hD p⟩
section
variable {K : PySem.W.Frag} {D : Ends} {σ : L2.St} {H : Hp} {Q : VK} {ta tv to : TE} {t : TA} {a C dx : Addr} {fs : List (Str × V)} {f : Str} {v y : V} {xs : List V} {u : TS}
theorem w_bm {T : String} {r : V → List V → Hp → VK → Prop} (q : to σ H fun x H1 => tyV K T x H1 ∧ t σ H1 fun xs H2 => r x xs H2 Q) : tBM K T r to t σ H Q := q
theorem w_tyL {P : Prop} (h : H a = some (.lst xs)) (q : P) : tyV K "list" (.ref a) H ∧ P := ⟨.inl ⟨rfl, _, SqL.of h⟩, q⟩
theorem w_append (h : H a = some (.lst xs)) (l : xs.length < sizeLine) (q : Q .non (upd H a (.lst (xs ++ [y])))) : rAppend (.ref a) [y] H Q := ⟨a, xs, y, rfl, rfl, h, l, q⟩
theorem w_fldAug {rd : V → V → Hp → VK → Prop} (q : ta σ H fun x H1 => ∃ a C dx fs v, x = .ref a ∧ H1 a = some (.ins C dx fs) ∧ Cls K C ∧ NoAttr K C f ∧ fs.lookup f = some v ∧
  tv σ H1 fun y H2 => rd v y H2 fun z H3 => ∃ dx' fs', H3 a = some (.ins C dx' fs') ∧ fs'.length < 1000 ∧ D.nx σ (upd H3 a (.ins C dx' (putF f z fs')))) : sFldAug K ta tv rd f D σ H := q
theorem w_seqU {rd : V → V → Hp → VK → Prop} (q : sFldAug K ta tv rd f { D with nx := u D } σ H) : tSeq (sFldAug K ta tv rd f) u D σ H := q
theorem w_listS {z : Str} (hz : z.length ≤ sizeLine) (q : ∀ l, H l = none → Q (.ref l) (upd H l (.lst (signsV z)))) : rListS [.str z] H Q := ⟨z, rfl, hz, q⟩
theorem w_enumL {R : It → Hp → Prop} (q : t σ H fun vs H1 => ∃ a xs, vs = [.ref a] ∧ SqL K H1 a xs ∧ R (Ite K a) H1) : iEnum K t σ H R := q
theorem w_enumLAt {R : Addr → Prop} (h : H a = some (.lst xs)) (q : R a) : ∃ a' xs', [V.ref a] = [.ref a'] ∧ SqL K H a' xs' ∧ R a' := ⟨a, xs, rfl, SqL.of h, q⟩
end
set_option hygiene false in
local macro_rules | `(tactic| walk_at "st") => `(tactic| first
  | ((with_reducible refine' w_aug ?h ?_); (case h => exact rfl))
  | (with_reducible first | refine w_bm ?_ | refine w_fldAug ?_ | refine w_seqU ?_ | refine w_enumL ?_)
  | ((with_reducible refine' w_tyL ?h ?_); (case h => walk_at "hp"))
  | ((with_reducible refine' w_enumLAt ?h ?_); (case h => walk_at "hp")))
theorem signs_first {q : Nat} : signsV (SX.S (abcL.take q)) = ((abcL.take q).map fun c => [c]).map strW := by
  unfold signsV
  rw [show (SX.S (abcL.take q)).cps.toList = abcL.take q by simp [SX.S], List.map_map]
  rfl
theorem abc_nodup : abcL.Nodup := by decide
theorem first_nodup (S : Sg) : (firstW S).Nodup := by
  unfold firstW
  by_cases h : S.hid = true
  · rw [if_pos h]
    refine List.pairwise_map.mpr ((abc_nodup.sublist (List.take_sublist _ _)).imp fun ne e => ne (by injection e))
  · rw [if_neg h]
    decide
theorem first_len (S : Sg) : (firstW S).length ≤ 26 := by
  unfold firstW
  by_cases h : S.hid = true
  · rw [if_pos h, List.length_map, List.length_take]
    have : abcL.length = 26 := by decide
    omega
  · rw [if_neg h]
    decide
theorem nodup_at {L : List Wd} (h : L.Nodup) {i : Nat} {x : Wd} (e : L[i]? = some x) : x ∉ L.take i := by
  intro m
  obtain ⟨j, hj⟩ := List.mem_iff_getElem?.mp m
  rw [List.getElem?_take] at hj
  split at hj
  · rename_i hlt
    have e1 := (List.getElem?_eq_some_iff.mp e)
    have e2 := (List.getElem?_eq_some_iff.mp hj)
    obtain ⟨h1, e1⟩ := e1
    obtain ⟨h2, e2⟩ := e2
    exact (List.pairwise_iff_getElem.mp h) j i h2 h1 hlt (e2.trans e1.symm)
  · cases hj
def spShBegin (K : PySem.W.Frag) : Sp := fun vs H Q _ => ∃ H0 s a S dx v1 v2 v3, vs = [.ref s] ∧ Same H0 H ∧ H0 s = none ∧ SetAt K H0 a S ∧
  H s = some (.ins (cShelf K) dx [("setting", .ref a), ("is_hidden", .bl S.hid), ("by_word", v1), ("by_number", v2), ("grown_now", v3)]) ∧ ∀ H', ShAt K H0 H' s a S ⟨firstW S, 0⟩ → Q .non H'
def spShWould (K : PySem.W.Frag) : Sp := fun vs H Q _ => ∃ H0 s a S st w, vs = [.ref s, .str (SX.S w)] ∧ ShAt K H0 H s a S st ∧ w.length ≤ 1000000 ∧ Q (.bl (wgrow S st w)) H
def spShGrow (K : PySem.W.Frag) : Sp := fun vs H Q _ => ∃ H0 s a S st w, vs = [.ref s, .str (SX.S w)] ∧ ShAt K H0 H s a S st ∧ w.length ≤ 1000000 ∧ st.ws.length ≤ 1000000 ∧
  (wgrow S st w = true → ∀ H', ShAt K H0 H' s a S (growS S st w) → Q (.bl true) H') ∧ (wgrow S st w = false → Q (.bl false) H)
def spShLong (K : PySem.W.Frag) : Sp := fun vs H Q _ => ∃ H0 s a S st l at_, vs = [.ref s, .str (SX.S l), .int ((at_ : Nat) : Int)] ∧ ShAt K H0 H s a S st ∧ l.length ≤ 1000000 ∧ bas S ≤ (l.drop at_).length ∧
  Q (.str (SX.S ((l.drop at_).take (lgst S st.ws (l.drop at_))))) H
def spShInit (K : PySem.W.Frag) : Sp := fun vs H Q _ => ∃ H0 s a S dx, vs = [.ref s, .ref a] ∧ Same H0 H ∧ H0 s = none ∧ SetAt K H0 a S ∧ H s = some (.ins (cShelf K) dx []) ∧ ∀ H', ShAt K H0 H' s a S ⟨firstW S, 0⟩ → Q .non H'
section
variable {P : Program} {w : World} {K : PySem.W.Frag} {mg : Str → Option Value} {base_ : Heap}
end
section
variable {P : Program} {w : World} {K : PySem.W.Frag} {mg : Str → Option Value} {base : Heap}
theorem d_Shelf_begin (T : Txt K mg) {f : Addr} (F : FA K "begin" "Shelf.begin" s_Shelf_begin [] f) (c_signs_of : Dn P w K mg base 4 "signs_of" s_signs_of ["letters"] (spSigns)) : Fr P w K mg base 5 (f) ["self"] [] (spShBegin K) := by
  refine fr_of0 F (fun _ _ _ _ _ _ us hl => match us, hl with | [_], _ => rfl) sc_Shelf_begin (fun vs H Q E h => ?_) (fun fa cdv A outer s H vs Q E hr h => ?_)
  · obtain ⟨H0, s, a, S, dx, v1, v2, v3, rfl, _⟩ := h
    rfl
  · obtain ⟨H0, s, a, S, dx, v1, v2, v3, rfl, e0, s0, hS, hs, k⟩ := h
    obtain ⟨dx0, l0, ha, hlim, q1, q2⟩ := id hS
    have ha' := e0 _ _ ha
    refine ⟨_, PSs.nox (pss_cons (ps_set (i := 1) sc_Shelf_begin.nd rfl (Or.inl rfl) (pe_ifExp (pt_val (pe_fld (pv 0) rfl) (by intro _; rfl)) (pe_d c_signs_of hr (by decide) rfl (pa_cons (pe_fld (pe_fld (pv 0) rfl) rfl) pa_nil)) (pe_lst (pa_cons pe_str pa_nil))))
 (pss_cons (ps_fld (pv 0) (pe_two (pe_callTy (cl_listS (by rfl)) (by rfl) T.n_list (by decide +kernel) (pa_cons (pv 1) pa_nil)) (pe_callTy cl_listOf (by rfl) T.n_list (by decide +kernel) (pa_cons (pv 1) pa_nil))) rfl)
 (pss_cons (ps_fld (pv 0) (pe_dc (own := [("number", 2), ("word", 3)]) (tt := tYes) (g := gTup K 2 (gCons (gName 2) (gCons (gName 3) (gNil)))) rfl sc_Shelf_begin.nd (pi_enum (by rfl) T.n_enumerate (pa_cons (pe_fld (pv 0) rfl) pa_nil)) (blkOk_by (N := ["self", "first", "number", "word"]) (sc := defScope s_Shelf_begin) (by decide +kernel)) (fun _ _ _ _ _ => (pg_tup rfl (pgs_cons (pg_name (i := 2) sc_Shelf_begin.nd rfl (Or.inl rfl)) (pgs_cons (pg_name (i := 3) sc_Shelf_begin.nd rfl (Or.inl rfl)) pgs_nil)))) (fun _ _ _ _ _ => pts_nil) (fun _ _ _ _ _ => (pv 3)) (fun _ _ _ _ _ => (pv 2))) rfl)
 (pss_one (ps_fld (pv 0) pe_int rfl))))), ?_⟩
    refine w_start (σ := [some (.ref s), none, none, none]) rfl ?_
    with_reducible refine w_join (fun σ' H' => ∃ fv, σ' = [some (.ref s), some fv, none, none] ∧ Same H H' ∧ ((S.hid = true ∧ fv = .str (SX.S (abcL.take S.q))) ∨ (S.hid = false ∧ ∃ l, fv = .ref l ∧ H' l = some (.lst [strW []])))) (fun X hX => ?_) ?_
    · repeat walk_at "st"
      cases hh : S.hid with
      | true =>
        repeat walk_at "st"
        refine ⟨(S.q : Int), rfl, by omega, by omega, ?_⟩
        repeat walk_at "st"
        exact hX _ _ ⟨_, rfl, Same.refl H, .inl ⟨hh, by rw [Int.toNat_natCast]⟩⟩
      | false =>
        repeat walk_at "st"
        refine ⟨by walk_at "len", fun l hl => ?_⟩
        repeat walk_at "st"
        exact hX _ _ ⟨_, rfl, same_new hl (Same.refl H), .inr ⟨hh, l, rfl, upd_same⟩⟩
    · rintro σ' H1 ⟨fv, rfl, e1, hfv⟩
      have hs1 := e1 _ _ hs
      have ha1 := e1 _ _ ha'
      with_reducible refine w_join (fun σ' H' => ∃ b, σ' = [some (.ref s), some fv, none, none] ∧ Same H0 H' ∧ H0 b = none ∧ b ≠ s ∧ H' b = some (.lst ((firstW S).map strW)) ∧ H' s = some (.ins (cShelf K) dx [("setting", .ref a), ("is_hidden", .bl S.hid), ("by_word", v1), ("by_number", .ref b), ("grown_now", v3)])) (fun X hX => ?_) ?_
      · rcases hfv with ⟨hh, rfl⟩ | ⟨hh, l, rfl, hl⟩
        · repeat walk_at "st"
          refine .inl ?_
          repeat walk_at "st"
          refine w_listS (by rw [sx_len, List.length_take]; have := sizeLine_eq; omega) fun b hb => ?_
          have nb : b ≠ s := (ne_of_none hs1 hb).symm
          repeat walk_at "st"
          refine hX _ _ ⟨b, rfl, ?_, same_free (e0.trans e1) hb, nb, ?_, by rw [upd_same]; rfl⟩
          · exact fun c o hc => by
              rw [upd_ne (ne_of_none hc s0)]
              exact same_new hb (Same.refl H1) c o (e1 c o (e0 c o hc))
          · rw [upd_ne nb, upd_same, signs_first]
            unfold firstW
            rw [if_pos hh]
        · repeat walk_at "st"
          refine .inr ?_
          repeat walk_at "st"
          refine w_listOfK (SqL.of hl) fun b hb => ?_
          have nb : b ≠ s := (ne_of_none hs1 hb).symm
          repeat walk_at "st"
          refine hX _ _ ⟨b, rfl, ?_, same_free (e0.trans e1) hb, nb, ?_, by rw [upd_same]; rfl⟩
          · exact fun c o hc => by
              rw [upd_ne (ne_of_none hc s0)]
              exact same_new hb (Same.refl H1) c o (e1 c o (e0 c o hc))
          · rw [upd_ne nb, upd_same]
            unfold firstW
            rw [if_neg (by rw [hh]; decide)]
            rfl
      · rintro σ' H2 ⟨b, rfl, e2, b0, nb, hb, hs2⟩
        repeat walk_at "st"
        refine dc_enumL H2 b ((firstW S).map strW) (fun D i H' => Same H2 H' ∧ H' D = some (.dK (kvsOf ((firstW S).take i)))) (fun R hR => ?_) (SqL.of hb) (fun D hD => ⟨same_new hD (Same.refl H2), upd_same⟩) (fun D i H' ⟨e, _⟩ => e.seq (SqL.of hb)) (fun D i x t H3 hD hx ⟨e3, hd3⟩ ht => ?_) fun D H3 hD ⟨e3, hd3⟩ => ?_
        · repeat walk_at "st"
          exact hR
        · obtain ⟨w0, hw, rfl⟩ : ∃ w0, (firstW S)[i]? = some w0 ∧ x = strW w0 := by
            rw [List.getElem?_map] at hx
            cases hw : (firstW S)[i]? with
            | none => rw [hw] at hx; cases hx
            | some w0 => rw [hw] at hx; exact ⟨w0, rfl, (Option.some.inj hx).symm⟩
          have hi : i < (firstW S).length := (List.getElem?_eq_some_iff.mp hw).1
          have tD : t ≠ D := (ne_of_none hd3 ht).symm
          have hlen : ((firstW S).take i).length = i := by rw [List.length_take]; omega
          simp only [wipe, List.map, List.set]
          repeat walk_at "st"
          refine ⟨rfl, ?_⟩
          simp only [tYes, if_true]
          repeat walk_at "st"
          refine ⟨_, Sum.inr (SX.S w0), rfl, (upd_ne tD.symm).trans hd3, ?_, ?_, ?_⟩
          · rw [kvs_len, hlen]
            have := first_len S
            have := sizeLine_eq
            omega
          · exact fun c o hc => by
              rw [upd_ne (ne_of_none hc hD)]
              exact same_new (same_free e3 ht) e3 c o hc
          · rw [upd_same]
            have e4 := kvs_put (nodup_at (first_nodup S) hw)
            rw [hlen] at e4
            rw [e4, List.take_add_one, hw]
            rfl
        · have nD : D ≠ s := (ne_of_none hs2 hD).symm
          have nDb : D ≠ b := (ne_of_none hb hD).symm
          have hs3 := e3 _ _ hs2
          have hb3 := e3 _ _ hb
          rw [List.length_map, List.take_length] at hd3
          repeat walk_at "st"
          refine k _ ⟨fun c o hc => ?_, s0, hS, dx, D, b, same_free e2 hD, b0, by rw [upd_same]; rfl, by walk_at "hp", by walk_at "hp"⟩
          rw [upd_ne (ne_of_none hc s0), upd_ne (ne_of_none hc s0)]
          exact e3 c o (e2 c o hc)
theorem lim_no_lets : ∀ (k : LimK) (n : Int), (limFs k n).lookup ("lets" : Str) = none
  | .free, _ => rfl
  | .short, _ => rfl
  | .cleared, _ => rfl
  | .standing, _ => rfl
theorem lim_no_ends : ∀ (k : LimK) (n : Int), (limFs k n).lookup ("ends_at" : Str) = none
  | .free, _ => rfl
  | .short, _ => rfl
  | .cleared, _ => rfl
  | .standing, _ => rfl
theorem d_Shelf_would_grow (T : Txt K mg) {f : Addr} (F : FA K "would_grow" "Shelf.would_grow" s_Shelf_would_grow [] f) (c_set_limit : ∀ h : Bool, Fr P w K mg base 1 (gtA K (cSet K h) "limit") ["self"] [] (spSetLimit K h)) (c_lets : ∀ k : LimK, Fr P w K mg base 1 (He.ma K (cLim K k) "lets") ["self", "grown", "size"] [] (spLets K k)) : Fr P w K mg base 3 (f) ["self", "word"] [] (spShWould K) := by
  refine fr_of0 F (fun _ _ _ _ _ _ us hl => match us, hl with | [_, _], _ => rfl) sc_Shelf_would_grow (fun vs H Q E h => ?_) (fun fa cdv A outer s H vs Q E hr h => ?_)
  · obtain ⟨H0, s, a, S, st, w0, rfl, _⟩ := h
    rfl
  · obtain ⟨H0, s, a, S, st, w0, rfl, ⟨e0, s0, hS, dx, d, b, d0, b0, hs, hd, hb⟩, hw, k⟩ := h
    obtain ⟨dx0, l0, ha, ⟨dl, hl⟩, q1, q2⟩ := id hS
    have ha' := e0 _ _ ha
    have hl' := e0 _ _ hl
    refine ⟨_, PSs.nox (pss_cons (ps_set (i := 2) sc_Shelf_would_grow.nd rfl (Or.inl rfl) (pe_ifExp (pt_val (pe_fld (pv 0) rfl) (by intro _; rfl)) (pe_callB cl_lenS (by rfl) T.n_len (by decide +kernel) (pa_cons (pv 1) pa_nil)) (pe_op op_add (pe_callB cl_lenS (by rfl) T.n_len (by decide +kernel) (pa_cons (pv 1) pa_nil)) pe_int)))
 (pss_one (ps_ret (pe_and (pe_cmp (pc_dnotin (hu_of hr) (pv 1) (pe_fld (pv 0) rfl))) (pe_one (pe_any fun k => pe_mt (c_lets k) (T.cl_lim k) (T.mt_lets k) hr (by decide) (pe_any fun h => pe_pr (c_set_limit h) (T.cl_set h) (T.pr_limit h) hr (by decide) (pe_fld (pv 0) rfl)) (pa_cons (pe_fld (pv 0) rfl) (pa_cons (pv 2) pa_nil)))))))), ?_⟩
    refine w_start (σ := [some (.ref s), some (.str (SX.S w0)), none]) rfl ?_
    with_reducible refine w_join (fun σ' H' => σ' = [some (.ref s), some (.str (SX.S w0)), some (.int (szOf S w0))] ∧ H' = H) (fun X hX => ?_) ?_
    · repeat walk_at "st"
      have lw : (SX.S w0).length ≤ sizeLine := by rw [sx_len]; have := sizeLine_eq; omega
      cases hh : S.hid with
      | true =>
        repeat walk_at "st"
        exact hX _ _ ⟨by rw [sx_len]; unfold szOf; rw [if_pos hh], rfl⟩
      | false =>
        repeat walk_at "st"
        exact hX _ _ ⟨by rw [sx_len]; unfold szOf; rw [if_neg (by rw [hh]; decide)], rfl⟩
    · rintro σ' H' ⟨rfl, rfl⟩
      repeat walk_at "st"
      refine ⟨d, _, rfl, DGet.k (k := Sum.inr (SX.S w0)) hd, ?_⟩
      rw [valV_kvs]
      by_cases hm : w0 ∈ st.ws
      · rw [if_pos hm]
        repeat walk_at "st"
        have e : wgrow S st w0 = false := by unfold wgrow; rw [decide_eq_true hm]; rfl
        rw [e] at k
        exact k
      · rw [if_neg hm]
        repeat walk_at "st"
        refine ⟨S.lk, ?_⟩
        repeat walk_at "st"
        refine ⟨S.hid, ?_⟩
        repeat walk_at "st"
        refine ⟨a, dx0, l0, (S.q : Int), rfl, ha', ?_⟩
        refine w_methAt hl' (lim_no_lets _ _) ?_
        repeat walk_at "st"
        refine ⟨l0, S.ln, st.g, szOf S w0, rfl, ⟨dl, hl'⟩, ?_⟩
        have e : wgrow S st w0 = letsK S.lk S.ln st.g (szOf S w0) := by unfold wgrow; rw [decide_eq_false hm]; rfl
        rw [e] at k
        exact k
theorem d_Shelf_grow (T : Txt K mg) {f : Addr} (F : FA K "grow" "Shelf.grow" s_Shelf_grow [] f) (c_Shelf_would_grow : Fr P w K mg base 3 (He.ma K (cShelf K) "would_grow") ["self", "word"] [] (spShWould K)) (c_set_limit : ∀ h : Bool, Fr P w K mg base 1 (gtA K (cSet K h) "limit") ["self"] [] (spSetLimit K h)) (c_ends : ∀ k : LimK, Fr P w K mg base 1 (He.ma K (cLim K k) "ends_at") ["self", "grown"] [] (spEnds K k)) (c_Shelf_begin : Fr P w K mg base 5 (He.ma K (cShelf K) "begin") ["self"] [] (spShBegin K)) : Fr P w K mg base 7 (f) ["self", "word"] [] (spShGrow K) := by
  refine fr_of0 F (fun _ _ _ _ _ _ us hl => match us, hl with | [_, _], _ => rfl) sc_Shelf_grow (fun vs H Q E h => ?_) (fun fa cdv A outer s H vs Q E hr h => ?_)
  · obtain ⟨H0, s, a, S, st, w0, rfl, _⟩ := h
    rfl
  · obtain ⟨H0, s, a, S, st, w0, rfl, hsh, hw, hn, k1, k2⟩ := h
    refine ⟨_, PSs.nox (pss_cons (ps_if (pt_not (pt_val (pe_mt c_Shelf_would_grow T.cl_shelf T.mt_sh_would_grow hr (by decide) (pv 0) (pa_cons (pv 1) pa_nil)) (by intro _; rfl)))
 (pss_one (ps_ret pe_bl))
 pss_nil)
 (pss_cons (ps_dput (hu_of hr) (pe_fld (pv 0) rfl) (pv 1) (pe_callB cl_lenQ (by rfl) T.n_len (by decide +kernel) (pa_cons (pe_fld (pv 0) rfl) pa_nil)) rfl)
 (pss_cons (ps_expr (pe_bm PySem.F.plainAttrs_list PySem.F.slot_list_append PySem.F.type_list_append mt_append (pe_fld (pv 0) rfl) (pa_cons (pv 1) pa_nil)))
 (pss_cons (ps_fldaug (pv 0) pe_int in_add)
 (pss_cons (ps_if (pt_val (pe_any fun k => pe_mt (c_ends k) (T.cl_lim k) (T.mt_ends k) hr (by decide) (pe_any fun h => pe_pr (c_set_limit h) (T.cl_set h) (T.pr_limit h) hr (by decide) (pe_fld (pv 0) rfl)) (pa_cons (pe_fld (pv 0) rfl) pa_nil)) (by intro _; rfl))
 (pss_one (ps_expr (pe_mt0 c_Shelf_begin T.cl_shelf T.mt_sh_begin hr (by decide) (pv 0))))
 pss_nil)
 (pss_one (ps_ret pe_bl))))))), ?_⟩
    refine w_start (σ := [some (.ref s), some (.str (SX.S w0))]) rfl ?_
    with_reducible refine w_seq ?_
    obtain ⟨e0, s0, hS, dx, d, b, d0, b0, hs, hd, hb⟩ := id hsh
    obtain ⟨dx0, l0, ha, ⟨dl, hl⟩, q1, q2⟩ := id hS
    repeat walk_at "st"
    refine ⟨H0, s, a, S, st, w0, rfl, hsh, hw, ?_⟩
    repeat walk_at "st"
    cases hg : wgrow S st w0 with
    | false =>
      repeat walk_at "st"
      exact k2 hg
    | true =>
      have k := k1 hg
      have hm : w0 ∉ st.ws := fun m => by
        unfold wgrow at hg
        rw [decide_eq_true m] at hg
        cases hg
      have sz := sizeLine_eq
      have nbd : b ≠ d := ne_of hb hd (by intro z; cases z)
      have nsd : s ≠ d := ne_of hs hd (by intro z; cases z)
      have nsb : s ≠ b := ne_of hs hb (by intro z; cases z)
      repeat walk_at "st"
      refine ⟨d, _, rfl, DPut.k (k := Sum.inr (SX.S w0)) hd (by rw [kvs_len]; omega), ?_⟩
      rw [List.length_map, kvs_put hm]
      have nad : a ≠ d := ne_of_none ha d0
      have nab : a ≠ b := ne_of_none ha b0
      have nas : a ≠ s := ne_of_none ha s0
      have nld : l0 ≠ d := ne_of_none hl d0
      have nlb : l0 ≠ b := ne_of_none hl b0
      have nls : l0 ≠ s := ne_of_none hl s0
      have ha' := e0 _ _ ha
      have hl' := e0 _ _ hl
      repeat walk_at "st"
      refine w_append (xs := st.ws.map strW) (by walk_at "hp") (by rw [List.length_map]; omega) ?_
      repeat walk_at "st"
      refine ⟨s, cShelf K, dx, shelfFs a d b S st.g, .int st.g, rfl, by walk_at "hp", T.cl_shelf, T.na_sh_grown_now, rfl, ?_⟩
      repeat walk_at "st"
      refine ⟨st.g, 1, rfl, rfl, dx, shelfFs a d b S st.g, by walk_at "hp", of_decide_eq_true rfl, ?_⟩
      have ef : putF "grown_now" (.int (st.g + 1)) (shelfFs a d b S st.g) = shelfFs a d b S (st.g + 1) := rfl
      rw [ef]
      obtain ⟨H3, eH⟩ : ∃ H3, H3 = upd (upd (upd H d (.dK (kvsOf (st.ws ++ [w0])))) b (.lst (st.ws.map strW ++ [V.str (SX.S w0)]))) s (.ins (cShelf K) dx (shelfFs a d b S (st.g + 1))) := ⟨_, rfl⟩
      rw [← eH]
      have hs3 : H3 s = some (.ins (cShelf K) dx (shelfFs a d b S (st.g + 1))) := by rw [eH, upd_same]
      have hd3 : H3 d = some (.dK (kvsOf (st.ws ++ [w0]))) := by rw [eH]; walk_at "hp"
      have hb3 : H3 b = some (.lst ((st.ws ++ [w0]).map strW)) := by
        rw [eH, List.map_append]
        show _ = some (HO.lst (List.map strW st.ws ++ [V.str (SX.S w0)]))
        walk_at "hp"
      have e3 : Same H0 H3 := fun c o hc => by
        rw [eH, upd_ne (ne_of_none hc s0), upd_ne (ne_of_none hc b0), upd_ne (ne_of_none hc d0)]
        exact e0 c o hc
      have ha3 := e3 _ _ ha
      have hl3 := e3 _ _ hl
      clear eH
      repeat walk_at "st"
      with_reducible refine w_seq ?_
      repeat walk_at "st"
      refine ⟨S.lk, ?_⟩
      repeat walk_at "st"
      refine ⟨S.hid, ?_⟩
      repeat walk_at "st"
      refine ⟨a, dx0, l0, (S.q : Int), rfl, ha3, ?_⟩
      refine w_methAt hl3 (lim_no_ends _ _) ?_
      repeat walk_at "st"
      refine ⟨l0, S.ln, st.g + 1, rfl, ⟨dl, hl3⟩, ?_⟩
      repeat walk_at "st"
      cases he : endsK S.lk S.ln (st.g + 1) with
      | true =>
        repeat walk_at "st"
        refine ⟨H0, s, a, S, dx, .ref d, .ref b, .int (st.g + 1), rfl, e3, s0, hS, hs3, fun H' sh => ?_⟩
        repeat walk_at "st"
        refine k H' ?_
        unfold growS
        rw [if_pos he]
        exact sh
      | false =>
        repeat walk_at "st"
        refine k H3 ?_
        unfold growS
        rw [if_neg (by rw [he]; decide)]
        exact ⟨e3, s0, hS, dx, d, b, d0, b0, hs3, hd3, hb3⟩
theorem d_Shelf_longest_at (T : Txt K mg) {f : Addr} (F : FA K "longest_at" "Shelf.longest_at" s_Shelf_longest_at [] f) : Fr P w K mg base 1 (f) ["self", "text", "at"] [] (spShLong K) := by
  refine fr_of0 F (fun _ _ _ _ _ _ us hl => match us, hl with | [_, _, _], _ => rfl) sc_Shelf_longest_at (fun vs H Q E h => ?_) (fun fa cdv A outer s H vs Q E hr h => ?_)
  · obtain ⟨H0, s, a, S, st, l, at_, rfl, _⟩ := h
    rfl
  · obtain ⟨H0, s, a, S, st, l, at_, rfl, ⟨e0, s0, hS, dx, d, b, d0, b0, hs, hd, hb⟩, hl, hbase, k⟩ := h
    have sz := sizeLine_eq
    have ll : (SX.S l).length ≤ sizeLine := by rw [sx_len]; omega
    refine ⟨_, PSs.nox (pss_cons (ps_set (i := 3) sc_Shelf_longest_at.nd rfl (Or.inl rfl) (pe_ifExp (pt_val (pe_fld (pv 0) rfl) (by intro _; rfl)) pe_int pe_int))
 (pss_cons (ps_while PassesOwn.never (PW.pt (pw_and (pt_cmpR op_lt (pe_op op_add (pv 2) (pv 3)) (pe_callB cl_lenS (by rfl) T.n_len (by decide +kernel) (pa_cons (pv 1) pa_nil)) (nomark _)) (pw_and1 (pt_cmp (pc_din (hu_of hr) (pe_slice sl_str (pv 1) (po_some (pv 2)) (po_some (pe_op op_add (pe_op op_add (pv 2) (pv 3)) pe_int))) (pe_fld (pv 0) rfl))))))
 (pss_one (ps_aug (i := 3) sc_Shelf_longest_at.nd rfl (Or.inl rfl) pe_int iop_add)))
 (pss_one (ps_ret (pe_slice sl_str (pv 1) (po_some (pv 2)) (po_some (pe_op op_add (pv 2) (pv 3)))))))), ?_⟩
    refine w_start (σ := [some (.ref s), some (.str (SX.S l)), some (.int (at_ : Nat)), none]) rfl ?_
    with_reducible refine w_join (fun σ' H' => σ' = [some (.ref s), some (.str (SX.S l)), some (.int (at_ : Nat)), some (.int ((bas S : Nat) : Int))] ∧ H' = H) (fun X hX => ?_) ?_
    · repeat walk_at "st"
      cases hh : S.hid with
      | true =>
        repeat walk_at "st"
        exact hX _ _ ⟨by unfold bas; rw [if_pos hh]; rfl, rfl⟩
      | false =>
        repeat walk_at "st"
        exact hX _ _ ⟨by unfold bas; rw [if_neg (by rw [hh]; decide)]; rfl, rfl⟩
    · rintro σ' H' ⟨rfl, rfl⟩
      with_reducible refine w_seq ?_
      obtain ⟨r, hr⟩ : ∃ r, r = l.drop at_ := ⟨_, rfl⟩
      rw [← hr] at hbase k
      have hrl : r.length = l.length - at_ := by rw [hr, List.length_drop]
      refine ⟨fun m σ' H2 => ∃ sz : Nat, σ' = [some (.ref s), some (.str (SX.S l)), some (.int (at_ : Nat)), some (.int (sz : Nat))] ∧ H2 = H' ∧ sz ≤ r.length ∧ m = r.length - sz ∧ lgst S st.ws r = lsz st.ws r (r.length - sz) sz, ⟨_, bas S, rfl, rfl, hbase, rfl, rfl⟩, ?_⟩
      rintro m σ' H2 ⟨n, rfl, rfl, hn, rfl, hlg⟩
      have ec : ∀ j : Nat, cutS (SX.S l) (some ((at_ : Nat) : Int)) (some (((at_ : Nat) : Int) + (j : Nat))) = SX.S (r.take j) := fun j => by
        rw [cutS_mid (by omega) (by omega), hr, show ((at_ : Nat) : Int).toNat = at_ by omega, show (((at_ : Nat) : Int) + (j : Nat) - (at_ : Nat)).toNat = j by omega]
      have fin : lgst S st.ws r = n → Q (.str (cutS (SX.S l) (some ((at_ : Nat) : Int)) (some (((at_ : Nat) : Int) + (n : Nat))))) H2 := fun e => by
        rw [ec n, ← e]
        exact k
      repeat walk_at "st"
      refine w_ite (fun h1 => ?_) (fun h1 => ?_)
      · rw [sx_len] at h1
        repeat walk_at "st"
        have ec1 : cutS (SX.S l) (some ((at_ : Nat) : Int)) (some (((at_ : Nat) : Int) + (n : Nat) + 1)) = SX.S (r.take (n + 1)) := by
          rw [← ec (n + 1), show (((at_ : Nat) : Int) + (n : Nat) + 1) = ((at_ : Nat) : Int) + ((n + 1 : Nat) : Int) by omega]
        rw [ec1]
        repeat walk_at "st"
        refine ⟨d, _, rfl, DGet.k (k := Sum.inr (SX.S (r.take (n + 1)))) hd, ?_⟩
        rw [valV_kvs]
        have lt : n < r.length := by omega
        rw [show r.length - n = (r.length - (n + 1)) + 1 by omega] at hlg
        unfold lsz at hlg
        by_cases hm : r.take (n + 1) ∈ st.ws
        · rw [if_pos ⟨lt, hm⟩] at hlg
          rw [if_pos hm]
          repeat walk_at "st"
          refine ⟨fun σ' H' => σ' = [some (.ref s), some (.str (SX.S l)), some (.int (at_ : Nat)), some (.int ((n + 1 : Nat) : Int))] ∧ H' = H2, fun σ' H' ⟨e1, e2⟩ => ⟨r.length - (n + 1), by omega, n + 1, e1, e2, lt, rfl, hlg⟩, ?_⟩
          repeat walk_at "st"
          exact ⟨rfl, rfl⟩
        · rw [if_neg fun z => hm z.2] at hlg
          rw [if_neg hm]
          repeat walk_at "st"
          exact fin hlg
      · rw [sx_len] at h1
        repeat walk_at "st"
        refine fin ?_
        rw [hlg, show r.length - n = 0 by omega]
        rfl
theorem d_Shelf___init__ (T : Txt K mg) {f : Addr} (F : FA K "__init__" "Shelf.__init__" s_Shelf___init__ [] f) (c_Shelf_begin : Fr P w K mg base 5 (He.ma K (cShelf K) "begin") ["self"] [] (spShBegin K)) : Fr P w K mg base 6 (f) ["self", "setting"] [] (spShInit K) := by
  refine fr_of0 F (fun _ _ _ _ _ _ us hl => match us, hl with | [_, _], _ => rfl) sc_Shelf___init__ (fun vs H Q E h => ?_) (fun fa cdv A outer s H vs Q E hr h => ?_)
  · obtain ⟨H0, s, a, S, dx, rfl, _⟩ := h
    rfl
  · obtain ⟨H0, s, a, S, dx, rfl, e0, s0, hS, hs, k⟩ := h
    obtain ⟨dx0, l0, ha, hlim, q1, q2⟩ := id hS
    have ha' := e0 _ _ ha
    have nas : a ≠ s := ne_of_none ha s0
    refine ⟨_, PSs.nox (pss_cons (ps_fld (pv 0) (pv 1) rfl)
 (pss_cons (ps_fld (pv 0) (pe_cmpR op_eq (pe_con (pv 1) rfl) pe_str (nomark _)) rfl)
 (pss_cons (ps_fld (pv 0) pe_dnewK rfl)
 (pss_cons (ps_fld (pv 0) (pe_lst pa_nil) rfl)
 (pss_cons (ps_fld (pv 0) pe_int rfl)
 (pss_one (ps_expr (pe_mt0 c_Shelf_begin T.cl_shelf T.mt_sh_begin hr (by decide) (pv 0))))))))), ?_⟩
    refine w_start (σ := [some (.ref s), some (.ref a)]) rfl ?_
    repeat walk_at "st"
    refine w_conAt (v := .str (setWord S.hid)) (by walk_at "hp") (T.cl_set _) (T.word_set _) rfl ?_
    repeat walk_at "st"
    rw [show decide (V.str (setWord S.hid) = V.str "hidden") = S.hid by cases S.hid <;> decide +kernel]
    repeat walk_at "st"
    refine fun d hd => ?_
    have nsd : s ≠ d := ne_of_none upd_same hd
    have hd0 : H d = none := by
      rw [upd_ne nsd.symm, upd_ne nsd.symm] at hd
      exact hd
    repeat walk_at "st"
    refine ⟨by walk_at "len", fun b hb => ?_⟩
    have nsb : s ≠ b := ne_of_none upd_same hb
    have ndb : d ≠ b := ne_of_none (show upd (upd _ d (.dK [])) s _ d = some (.dK []) by walk_at "hp") hb
    have hb0 : H b = none := by
      simp only [upd_ne nsb.symm, upd_ne ndb.symm] at hb
      exact hb
    repeat walk_at "st"
    refine ⟨H0, s, a, S, dx, .ref d, .ref b, .int 0, rfl, fun c o hc => ?_, s0, hS, by rw [upd_same]; rfl, fun H' sh => ?_⟩
    · have hc' := e0 c o hc
      simp only [upd_ne (ne_of_none hc s0), upd_ne (ne_of_none hc' hd0), upd_ne (ne_of_none hc' hb0)]
      exact hc'
    · repeat walk_at "st"
      exact k H' sh
end

/-! ### work.py: the steps, a row -/
section
variable {D : GEnds} {ys : List V} {σ : L2.St} {H : Hp} {t : TS} {g u : TGn} {te : TE}
theorem w_gthen (q : g { D with nx := fun ys' σ' H' => u D ys' σ' H' } ys σ H) : tGThen g u D ys σ H := q
theorem w_gjoin (Mid : List V → L2.St → Hp → Prop) (h : ∀ X : List V → L2.St → Hp → Prop, (∀ ys' σ' H', Mid ys' σ' H' → X ys' σ' H') → g { D with nx := X } ys σ H) (hX : ∀ ys' σ' H', Mid ys' σ' H' → u D ys' σ' H') : tGThen g u D ys σ H := h (fun ys' σ' H' => u D ys' σ' H') hX
theorem w_plain (q : t (D.at ys) σ H) : tPlain t D ys σ H := q
theorem w_gat {f bk ct : List V → L2.St → Hp → Prop} {rt : List V → VK} (q : f ys σ H) : ((GEnds.mk f rt bk ct).at ys).nx σ H := q
theorem w_gnx {f bk ct : List V → L2.St → Hp → Prop} {rt : List V → VK} (q : f ys σ H) : (GEnds.mk f rt bk ct).nx ys σ H := q
theorem w_g0n (q : D.nx ys σ H) : tG0 D ys σ H := q
theorem w_gyield (l : ys.length < sizeLine) (q : te σ H fun x H1 => D.nx (ys ++ [x]) σ H1) : tGYield te D ys σ H := ⟨l, q⟩
end
set_option hygiene false in
local macro_rules | `(tactic| walk_at "st") => `(tactic| first
  | ((with_reducible refine' w_aug ?h ?_); (case h => exact rfl))
  | (with_reducible first | refine w_bm ?_ | refine w_fldAug ?_ | refine w_seqU ?_ | refine w_enumL ?_)
  | ((with_reducible refine' w_tyL ?h ?_); (case h => walk_at "hp"))
  | ((with_reducible refine' w_enumLAt ?h ?_); (case h => walk_at "hp")))

set_option hygiene false in
local macro_rules | `(tactic| walk_at "st") => `(tactic| (with_reducible first | refine w_gthen ?_ | refine w_plain ?_ | refine w_gat ?_ | refine w_gnx ?_ | refine w_g0n ?_))
def stpV (x : Stp) : List V := [.str (SX.S x.w), .str (SX.S x.l), .int (x.n : Nat), .str (SX.S x.g)]
def TupAt (H : Hp) (y : V) (x : Stp) : Prop := ∃ t, y = .ref t ∧ H t = some (.tup (stpV x))
def spWorks (K : PySem.W.Frag) : SpG := fun vs H Q _ => ∃ H0 s a S l, vs = [.ref a, .str (SX.S l), .ref s] ∧ ShAt K H0 H s a S ⟨firstW S, 0⟩ ∧ l.length ≤ 100000 ∧ (∀ c ∈ l, c ∈ abcL.take S.q) ∧
  ∀ ys H' H1 st, Same H0 H1 → ShAt K H1 H' s a S st → Paired (TupAt H1) ys (stepsOf S l) → Q ys H'
theorem paired_snoc {α β : Type} {G : α → β → Prop} : ∀ {l1 : List α} {l2 : List β} {a : α} {b : β}, Paired G l1 l2 → G a b → Paired G (l1 ++ [a]) (l2 ++ [b])
  | _, _, _, _, .nil, h => .cons h .nil
  | _, _, _, _, .cons p r, h => .cons p (paired_snoc r h)
theorem paired_imp {α β : Type} {G G' : α → β → Prop} (h : ∀ a b, G a b → G' a b) : ∀ {l1 : List α} {l2 : List β}, Paired G l1 l2 → Paired G' l1 l2
  | _, _, .nil => .nil
  | _, _, .cons p r => .cons (h _ _ p) (paired_imp h r)
theorem paired_len {α β : Type} {G : α → β → Prop} : ∀ {l1 : List α} {l2 : List β}, Paired G l1 l2 → l1.length = l2.length
  | _, _, .nil => rfl
  | _, _, .cons _ r => by rw [List.length_cons, List.length_cons, paired_len r]
/-- the shelf's words amid the coding -/
structure ShOk (S : Sg) (st : Shf) (n : Nat) : Prop where
  first : ∀ w ∈ firstW S, w ∈ st.ws
  len : st.ws.length ≤ 26 + n
theorem growS_ok {S : Sg} {st : Shf} {n : Nat} {w : Wd} (h : ShOk S st n) : ShOk S (growS S st w) (n + 1) := by
  unfold growS
  by_cases e : endsK S.lk S.ln (st.g + 1) = true
  · rw [if_pos e]
    exact ⟨fun w h => h, by have := first_len S; show (firstW S).length ≤ _; omega⟩
  · rw [if_neg e]
    refine ⟨fun w hw => List.mem_append_left _ (h.first w hw), ?_⟩
    have := h.len
    show (st.ws ++ [w]).length ≤ _
    rw [List.length_append]
    show st.ws.length + 1 ≤ _
    omega
theorem base_in {S : Sg} {st : Shf} {n : Nat} {r : Wd} (h : ShOk S st n) (hr : r ≠ []) (hl : ∀ c ∈ r, c ∈ abcL.take S.q) : r.take (bas S) ∈ st.ws := by
  refine h.first _ ?_
  unfold firstW bas
  by_cases e : S.hid = true
  · rw [if_pos e, if_pos e]
    cases r with
    | nil => exact absurd rfl hr
    | cons c r => exact List.mem_map.mpr ⟨c, hl c List.mem_cons_self, rfl⟩
  · rw [if_neg e, if_neg e]
    exact List.mem_singleton.mpr rfl
theorem bas_le {S : Sg} {r : Wd} (hr : r ≠ []) : bas S ≤ r.length := by
  have : 0 < r.length := List.length_pos_iff.mpr hr
  unfold bas
  split <;> omega
theorem ShAt.add {K : PySem.W.Frag} {H1 H2 : Hp} {s a t : Addr} {S : Sg} {st : Shf} {o : HO} (h : ShAt K H1 H2 s a S st) (ht : H2 t = none) : ShAt K (upd H1 t o) (upd H2 t o) s a S st := by
  obtain ⟨e, s0, hS, dx, d, b, d0, b0, hs, hd, hb⟩ := h
  have ns : s ≠ t := ne_of_none hs ht
  have nd : d ≠ t := ne_of_none hd ht
  have nb : b ≠ t := ne_of_none hb ht
  have t1 : H1 t = none := same_free e ht
  refine ⟨fun c u hc => ?_, by rw [upd_ne ns]; exact s0, hS.same (same_new t1 (Same.refl H1)), dx, d, b, by rw [upd_ne nd]; exact d0, by rw [upd_ne nb]; exact b0, by rw [upd_ne ns]; exact hs, by rw [upd_ne nd]; exact hd, by rw [upd_ne nb]; exact hb⟩
  by_cases hct : c = t
  · subst hct
    rw [upd_same] at hc ⊢
    exact hc
  · rw [upd_ne hct] at hc ⊢
    exact e c u hc
theorem ShOk.mono {S : Sg} {st : Shf} {n m : Nat} (h : ShOk S st n) (e : n ≤ m) : ShOk S st m := ⟨h.first, by have := h.len; omega⟩
section
variable {P : Program} {w : World} {K : PySem.W.Frag} {mg : Str → Option Value} {base : Heap}
theorem d_works (T : Txt K mg) (F : FD K mg "works" s_works) (c_Shelf_longest_at : Fr P w K mg base 1 (He.ma K (cShelf K) "longest_at") ["self", "text", "at"] [] (spShLong K)) (c_Shelf_grow : Fr P w K mg base 7 (He.ma K (cShelf K) "grow") ["self", "word"] [] (spShGrow K)) : Gn P w K mg base 8 "works" s_works ["setting", "text", "shelf"] (spWorks K) := by
  refine gn_of F (fun _ _ _ _ _ _ us hl => match us, hl with | [_, _, _], _ => rfl) sc_works (fun vs H Q E h => ?_) (fun fa cdv A outer s H vs Q E pn hr h => ?_)
  · obtain ⟨H0, s, a, S, l, rfl, _⟩ := h
    rfl
  · obtain ⟨H0, s, a, S, l, rfl, hsh, hl, habc, k⟩ := h
    have sz := sizeLine_eq
    have ll : (SX.S l).length ≤ sizeLine := by rw [sx_len]; omega
    refine ⟨_, (gss_cons (gs_ps (ps_set (i := 3) sc_works.nd rfl (Or.inl rfl) pe_int))
 (gss_cons (gs_while owns_gcx (pt_cmpR op_lt (pv 3) (pe_callB cl_lenS (by rfl) T.n_len (by decide +kernel) (pa_cons (pv 1) pa_nil)) (nomark _))
 (gss_cons (gs_ps (ps_set (i := 4) sc_works.nd rfl (Or.inl rfl) (pe_mt c_Shelf_longest_at T.cl_shelf T.mt_sh_longest_at hr (by decide) (pv 2) (pa_cons (pv 1) (pa_cons (pv 3) pa_nil)))))
 (gss_cons (gs_ps (ps_set (i := 5) sc_works.nd rfl (Or.inl rfl) (pe_slice sl_str (pv 1) (po_some (pe_op op_add (pv 3) (pe_callB cl_lenS (by rfl) T.n_len (by decide +kernel) (pa_cons (pv 4) pa_nil)))) (po_some (pe_op op_add (pe_op op_add (pv 3) (pe_callB cl_lenS (by rfl) T.n_len (by decide +kernel) (pa_cons (pv 4) pa_nil))) pe_int)))))
 (gss_cons (gs_ps (ps_set (i := 6) sc_works.nd rfl (Or.inl rfl) (pe_dget (hu_of hr) (pe_fld (pv 2) rfl) (pv 4) (fun _ _ => rfl))))
 (gss_cons (gs_ps (ps_set (i := 7) sc_works.nd rfl (Or.inl rfl) (pe_and (pe_cmpR op_ne (pv 5) pe_str (nomark _)) (pe_one (pe_mt c_Shelf_grow T.cl_shelf T.mt_sh_grow hr (by decide) (pv 2) (pa_cons (pe_op op_addS (pv 4) (pv 5)) pa_nil))))))
 (gss_cons (gs_yield (pe_tup (pa_cons (pv 4) (pa_cons (pv 5) (pa_cons (pv 6) (pa_cons (pe_ifExp (pt_val (pv 7) (by intro _; rfl)) (pe_op op_addS (pv 4) (pv 5)) pe_str) pa_nil))))))
 (gss_cons (gs_ps (ps_aug (i := 3) sc_works.nd rfl (Or.inl rfl) (pe_ifExp (pt_val (pe_fld (pv 2) rfl) (by intro _; rfl)) (pe_callB cl_lenS (by rfl) T.n_len (by decide +kernel) (pa_cons (pv 4) pa_nil)) (pe_op op_add (pe_callB cl_lenS (by rfl) T.n_len (by decide +kernel) (pa_cons (pv 4) pa_nil)) pe_int)) iop_add))
 gss_nil)))))))
 gss_nil)), ?_⟩
    show tGThen _ _ _ [] [some (.ref a), some (.str (SX.S l)), some (.ref s), none, none, none, none, none] H
    repeat walk_at "st"
    refine ⟨fun m ys σ' H' => ∃ (i : Nat) (o4 o5 o6 o7 : Option V) (H1 : Hp) (st : Shf) (done : List Stp) (f : Nat), σ' = [some (.ref a), some (.str (SX.S l)), some (.ref s), some (.int (i : Nat)), o4, o5, o6, o7] ∧ m = l.length - i ∧ Same H0 H1 ∧ ShAt K H1 H' s a S st ∧ ShOk S st i ∧ ys.length ≤ i ∧
      Paired (TupAt H1) ys done ∧ (l.drop i).length ≤ f ∧ done ++ stepsF S f st (l.drop i) = stepsOf S l, ⟨_, 0, none, none, none, none, H0, ⟨firstW S, 0⟩, [], l.length, rfl, rfl, Same.refl H0, hsh, ⟨fun w h => h, by have := first_len S; exact this⟩, Nat.le_refl _, .nil, by simp, rfl⟩, ?_⟩
    rintro m ys σ' H' ⟨i, o4, o5, o6, o7, H1, st, done, f, rfl, rfl, e01, sh, ok, hys, hp, hf, hd⟩
    repeat walk_at "st"
    refine w_ite (fun h1 => ?_) (fun h1 => ?_)
    · rw [sx_len] at h1
      have hi : i < l.length := by omega
      obtain ⟨r, er⟩ : ∃ r, r = l.drop i := ⟨_, rfl⟩
      have hrl : r.length = l.length - i := by rw [er, List.length_drop]
      have hrn : r ≠ [] := List.length_pos_iff.mp (by omega)
      have hra : ∀ c ∈ r, c ∈ abcL.take S.q := fun c hc => habc c (List.mem_of_mem_drop (by rw [er] at hc; exact hc))
      rw [← er] at hf hd
      obtain ⟨f, rfl⟩ : ∃ f', f = f' + 1 := ⟨f - 1, by omega⟩
      obtain ⟨n, en⟩ : ∃ n, n = lgst S st.ws r := ⟨_, rfl⟩
      have hn : n ≤ r.length := by rw [en]; exact lsz_le _ _ _ _ (bas_le hrn)
      have hbn : bas S ≤ n := by rw [en]; exact lsz_ge _ _ _ _
      have hin : r.take n ∈ st.ws := by rw [en]; exact lsz_in _ _ _ _ (base_in ok hrn hra)
      obtain ⟨e1, s0, hS, dx, d, b, d0, b0, hs, hd', hb⟩ := id sh
      refine ⟨_, fun ys' σ' H' h => h, ?_⟩
      repeat walk_at "st"
      refine ⟨H1, s, a, S, st, l, i, rfl, sh, by omega, by rw [← er]; exact bas_le hrn, ?_⟩
      rw [← er, ← en]
      obtain ⟨wd, ewd⟩ : ∃ wd, wd = r.take n := ⟨_, rfl⟩
      obtain ⟨lt, elt⟩ : ∃ lt, lt = (r.drop n).take 1 := ⟨_, rfl⟩
      rw [← ewd]
      have wl : wd.length = n := by rw [ewd, List.length_take]; omega
      have ltl : lt.length ≤ 1 := by rw [elt, List.length_take]; omega
      have lw : (SX.S wd).length ≤ sizeLine := by rw [sx_len]; omega
      have lw2 : (SX.S wd).length ≤ 1000000 := by rw [sx_len]; omega
      have ll2 : (SX.S lt).length ≤ 1000000 := by rw [sx_len]; omega
      repeat walk_at "st"
      have elet : cutS (SX.S l) (some (((i : Nat) : Int) + ((SX.S wd).length : Nat))) (some (((i : Nat) : Int) + ((SX.S wd).length : Nat) + 1)) = SX.S lt := by
        rw [cutS_mid (by omega) (by omega), elt, er, List.drop_drop, sx_len, wl, show (((i : Nat) : Int) + (n : Nat)).toNat = i + n by omega, show (((i : Nat) : Int) + (n : Nat) + 1 - (((i : Nat) : Int) + (n : Nat))).toNat = 1 by omega]
      rw [elet]
      have hdg : DGet H' d (.str (SX.S wd)) (some (.int (st.ws.idxOf wd : Nat))) := by
        have y := DGet.k (k := Sum.inr (SX.S wd)) hd'
        rw [valV_kvs, if_pos (by rw [ewd]; exact hin)] at y
        exact y
      refine ⟨d, _, rfl, hdg, ?_⟩
      with_reducible refine w_g6 ?_
      with_reducible refine w_gat ?_
      obtain ⟨bb, ebb⟩ : ∃ bb, bb = (!decide (lt = []) && wgrow S st (wd ++ lt)) := ⟨_, rfl⟩
      with_reducible refine w_gjoin (fun ys' σ' H2 => ys' = ys ∧ σ' = [some (.ref a), some (.str (SX.S l)), some (.ref s), some (.int (i : Nat)), some (.str (SX.S wd)), some (.str (SX.S lt)), some (.int (st.ws.idxOf wd : Nat)), some (.bl bb)] ∧ ShAt K H1 H2 s a S (if bb = true then growS S st (wd ++ lt) else st)) (fun X hX => ?_) ?_
      · repeat walk_at "st"
        rw [show V.str ("" : Str) = V.str (SX.S []) from rfl, eqS]
        by_cases hl0 : lt = []
        · have hb0 : bb = false := by rw [ebb, decide_eq_true hl0]; rfl
          rw [decide_eq_true hl0]
          repeat walk_at "st"
          exact hX _ _ _ ⟨rfl, by rw [hb0], by rw [hb0, if_neg Bool.false_ne_true]; exact sh⟩
        · rw [decide_eq_false hl0]
          repeat walk_at "st"
          rw [SX.S_cat]
          refine ⟨H1, s, a, S, st, wd ++ lt, rfl, sh, by rw [List.length_append]; omega, by have := ok.len; omega, fun hg H2 sh2 => ?_, fun hg => ?_⟩
          · have hb1 : bb = true := by rw [ebb, decide_eq_false hl0, hg]; rfl
            repeat walk_at "st"
            exact hX _ _ _ ⟨rfl, by rw [hb1], by rw [hb1, if_pos rfl]; exact sh2⟩
          · have hb0 : bb = false := by rw [ebb, decide_eq_false hl0, hg]; rfl
            repeat walk_at "st"
            exact hX _ _ _ ⟨rfl, by rw [hb0], by rw [hb0, if_neg Bool.false_ne_true]; exact sh⟩
      · rintro ys' σ' H2 ⟨rfl, rfl, sh2⟩
        with_reducible refine w_gthen ?_
        refine w_gyield (by omega) ?_
        with_reducible refine w_tup ?_
        with_reducible refine w_cons ?_
        with_reducible refine w_v4 ?_
        with_reducible refine w_cons ?_
        with_reducible refine w_v5 ?_
        with_reducible refine w_cons ?_
        with_reducible refine w_v6 ?_
        with_reducible refine w_cons ?_
        refine w_val (fun v H3 => v = .str (SX.S (if bb = true then wd ++ lt else [])) ∧ H3 = H2) (fun X hX => ?_) ?_
        · cases bb with
          | true =>
            repeat walk_at "st"
            exact hX _ _ ⟨by rw [SX.S_cat, if_pos rfl], rfl⟩
          | false =>
            repeat walk_at "st"
            exact hX _ _ ⟨rfl, rfl⟩
        · rintro v H3 ⟨rfl, rfl⟩
          repeat walk_at "st"
          refine ⟨by walk_at "len", fun t ht => ?_⟩
          obtain ⟨st2, est2⟩ : ∃ st2, st2 = (if bb = true then growS S st (wd ++ lt) else st) := ⟨_, rfl⟩
          rw [← est2] at sh2
          have sh3 := sh2.add (o := .tup [.str (SX.S wd), .str (SX.S lt), .int (st.ws.idxOf wd : Nat), .str (SX.S (if bb = true then wd ++ lt else []))]) ht
          obtain ⟨_, _, _, dx3, d3, b3, _, _, hs3, _, _⟩ := id sh3
          obtain ⟨j, ej⟩ : ∃ j, j = (if S.hid = true then i + n else i + n + 1) := ⟨_, rfl⟩
          have hij : i + 1 ≤ j := by
            rw [ej]
            unfold bas at hbn
            split at hbn
            · rename_i hh
              rw [if_pos hh]
              omega
            · rename_i hh
              rw [if_neg hh]
              omega
          have hx : (step1 S st r).1 = ⟨wd, lt, st.ws.idxOf wd, if bb = true then wd ++ lt else []⟩ := by
            rw [ebb, elt, ewd, en]
            rfl
          have hst : (step1 S st r).2.1 = st2 := by
            rw [est2, ebb, elt, ewd, en]
            rfl
          have hrest : (step1 S st r).2.2 = l.drop j := by
            show r.drop (if S.hid = true then lgst S st.ws r else lgst S st.ws r + 1) = _
            rw [← en, er, List.drop_drop, ej]
            congr 1
            split <;> omega
          have hsteps : done ++ [(step1 S st r).1] ++ stepsF S f st2 (l.drop j) = stepsOf S l := by
            rw [← hd, ← hst, ← hrest, List.append_assoc]
            show done ++ ((step1 S st r).1 :: _) = done ++ stepsF S (f + 1) st r
            conv => rhs; unfold stepsF
            rw [if_neg hrn]
            rfl
          have hlen2 : (l.drop j).length ≤ f := by
            rw [List.length_drop]
            omega
          have ok2 : ShOk S st2 j := by
            rw [est2]
            split
            · exact (growS_ok ok).mono hij
            · exact ok.mono (by omega)
          have hp2 : Paired (TupAt (upd H1 t (.tup [.str (SX.S wd), .str (SX.S lt), .int (st.ws.idxOf wd : Nat), .str (SX.S (if bb = true then wd ++ lt else []))]))) (ys' ++ [.ref t]) (done ++ [(step1 S st r).1]) := by
            have gi : ∀ y x, TupAt H1 y x → TupAt (upd H1 t (.tup [.str (SX.S wd), .str (SX.S lt), .int (st.ws.idxOf wd : Nat), .str (SX.S (if bb = true then wd ++ lt else []))])) y x := fun y x ⟨t', e1, e2⟩ => ⟨t', e1, by rw [upd_ne (ne_of_none e2 (same_free sh2.1 ht))]; exact e2⟩
            exact paired_snoc (paired_imp gi hp) ⟨t, rfl, by rw [upd_same, hx]; rfl⟩
          have e05 : Same H0 (upd H1 t (.tup [.str (SX.S wd), .str (SX.S lt), .int (st.ws.idxOf wd : Nat), .str (SX.S (if bb = true then wd ++ lt else []))])) := same_new (same_free (e01.trans sh2.1) ht) e01
          repeat walk_at "st"
          refine w_fldAt hs3 T.cl_shelf T.na_sh_is_hidden rfl ?_
          cases hh : S.hid with
          | true =>
            rw [hh, if_pos rfl] at ej
            repeat walk_at "st"
            refine ⟨l.length - j, by omega, j, some (.str (SX.S wd)), some (.str (SX.S lt)), some (.int (st.ws.idxOf wd : Nat)), some (.bl bb), _, st2, _, f, ?_, rfl, e05, sh3, ok2, by rw [List.length_append]; show ys'.length + 1 ≤ j; omega, hp2, hlen2, hsteps⟩
            rw [show ((i : Nat) : Int) + ((SX.S wd).length : Nat) = ((j : Nat) : Int) by rw [sx_len, wl, ej]; rfl]
            rfl
          | false =>
            rw [hh, if_neg Bool.false_ne_true] at ej
            repeat walk_at "st"
            refine ⟨l.length - j, by omega, j, some (.str (SX.S wd)), some (.str (SX.S lt)), some (.int (st.ws.idxOf wd : Nat)), some (.bl bb), _, st2, _, f, ?_, rfl, e05, sh3, ok2, by rw [List.length_append]; show ys'.length + 1 ≤ j; omega, hp2, hlen2, hsteps⟩
            rw [show ((i : Nat) : Int) + (((SX.S wd).length : Nat) + 1) = ((j : Nat) : Int) by rw [sx_len, wl, ej]; rfl]
            rfl
    · rw [sx_len] at h1
      have hr : l.drop i = [] := List.drop_eq_nil_of_le (by omega)
      rw [hr] at hd
      have e : stepsF S f st [] = [] := by cases f <;> rfl
      rw [e, List.append_nil] at hd
      rw [hd] at hp
      repeat walk_at "st"
      exact k ys H' H1 st e01 sh hp
end

/-! ### row_by, a setting called -/
section
variable {X : Cx} {K : PySem.W.Frag} {σ : L2.St} {H : Hp} {Q : VK}
theorem pe_fldK {e : Expr} {f : Str} {ta : TE} {pos : Pos} (hK : X.K = K) (he : PE X e ta) (hb : attributeBase e f X.env (eval e X.env) = eval e X.env) : PE X (.Attribute e f pos) (tFld K ta f) := hK ▸ pe_fld he hb
def rTupOf (K : PySem.W.Frag) : List V → Hp → VK → Prop := fun xs H Q => ∃ p ys, xs = [.ref p] ∧ ((SqL K H p ys ∧ ∀ l, H l = none → Q (.ref l) (upd H l (.tup ys))) ∨ (SqT K H p ys ∧ Q (.ref p) H))
theorem cl_tupOf : CallR X (.type "tuple") (rTupOf X.K) := call_tuple_of
theorem w_tupOf {p : Addr} {ys : List V} (h : H p = some (.lst ys)) (q : ∀ l, H l = none → Q (.ref l) (upd H l (.tup ys))) : rTupOf K [.ref p] H Q := ⟨p, ys, rfl, .inl ⟨SqL.of h, q⟩⟩
theorem w_listG {tg : TGen} (q : tg σ H fun out H2 => ∀ p, H2 p = none → Q (.ref p) (upd H2 p (.lst out))) : tListG tg σ H Q := q
theorem w_callG {sp : SpG} {dvs : List V} {E : XK} {t : TA} {c : List V → Hp → Prop} (q : t σ H fun vs H1 => sp (vs ++ dvs) H1 c E) : tCallG sp dvs E t σ H c := q
/-- a comprehension over a list, whatever its target -/
theorem lc_anyL {g : TG} {tt : TT} {te ts : TE} {vs : List Nat} (H1 : Hp) (a : Addr) (xs : List V) (Pv : Addr → Nat → Hp → Prop) (hs : ∀ R : VK, R (.ref a) H1 → ts σ H R) (ha : SqL K H1 a xs) (h0 : ∀ D, H1 D = none → Pv D 0 (upd H1 D (.lst []))) (hl : ∀ D i H, Pv D i H → SqL K H a xs)
    (ht : ∀ D i x H, H1 D = none → xs[i]? = some x → Pv D i H → g x (wipe σ vs) H fun σ2 H2 => wipe σ2 vs = wipe σ vs ∧ tt σ2 H2 fun b H3 =>
      if b = true then te σ2 H3 fun y H4 => ∃ acc, H4 D = some (.lst acc) ∧ acc.length < sizeLine ∧ Pv D (i + 1) (upd H4 D (.lst (acc ++ [y]))) else Pv D (i + 1) H3)
    (hd : ∀ D H, H1 D = none → Pv D xs.length H → Q (.ref D) H) : tLc (iList K ts) g tt te vs σ H Q :=
  hs _ ⟨a, rfl, ⟨xs, ha⟩, fun D hD => L2.lc_list (Pv D) (h0 D hD) (fun i H _ => hl D i H) (fun i x H => ht D i x H hD) fun H p => hd D H hD p⟩
end
set_option hygiene false in
local macro_rules | `(tactic| walk_at "st") => `(tactic| first
  | ((with_reducible refine' w_aug ?h ?_); (case h => exact rfl))
  | (with_reducible first | refine w_bm ?_ | refine w_fldAug ?_ | refine w_seqU ?_ | refine w_enumL ?_)
  | ((with_reducible refine' w_tyL ?h ?_); (case h => walk_at "hp"))
  | ((with_reducible refine' w_enumLAt ?h ?_); (case h => walk_at "hp")))

set_option hygiene false in
local macro_rules | `(tactic| walk_at "st") => `(tactic| (with_reducible first | refine w_listG ?_ | refine w_callG ?_))
theorem paired_at {α β : Type} {G : α → β → Prop} : ∀ {l1 : List α} {l2 : List β}, Paired G l1 l2 → ∀ {i : Nat} {a : α}, l1[i]? = some a → ∃ b, l2[i]? = some b ∧ G a b
  | _, _, .nil, i, a, h => by simp at h
  | _ :: _, y :: _, .cons p r, 0, a, h => by
    obtain rfl : _ = a := Option.some.inj h
    exact ⟨y, rfl, p⟩
  | _, _, .cons p r, i + 1, a, h => paired_at r (by simpa using h)
def spRowBy (K : PySem.W.Frag) : Sp := fun vs H Q _ => ∃ a S l, vs = [.ref a, .str (SX.S l)] ∧ SetAt K H a S ∧ l.length ≤ 100000 ∧ (∀ c ∈ l, c ∈ abcL.take S.q) ∧ ∀ t H', Same H H' → H t = none → H' t = some (.tup ((rowOf S l).map strW)) → Q (.ref t) H'
theorem steps_len (S : Sg) : ∀ (f : Nat) (st : Shf) (r : Wd), (stepsF S f st r).length ≤ f
  | 0, _, _ => Nat.le_refl _
  | f + 1, st, r => by
    unfold stepsF
    split
    · exact Nat.zero_le _
    · rw [List.length_cons]
      exact Nat.succ_le_succ (steps_len S f _ _)
theorem steps_wl (S : Sg) : ∀ (f : Nat) (st : Shf) (r : Wd), ∀ x ∈ stepsF S f st r, x.w.length ≤ r.length ∧ x.l.length ≤ 1
  | 0, _, _, x, h => nomatch h
  | f + 1, st, r, x, h => by
    unfold stepsF at h
    split at h
    · cases h
    · rcases List.mem_cons.mp h with rfl | h
      · constructor
        · show (r.take _).length ≤ _
          rw [List.length_take]
          exact Nat.min_le_right _ _
        · show ((r.drop _).take 1).length ≤ 1
          rw [List.length_take]
          exact Nat.min_le_left _ _
      · obtain ⟨h1, h2⟩ := steps_wl S f _ _ x h
        refine ⟨Nat.le_trans h1 ?_, h2⟩
        show (r.drop _).length ≤ _
        rw [List.length_drop]
        exact Nat.sub_le _ _
section
variable {P : Program} {w : World} {K : PySem.W.Frag} {mg : Str → Option Value} {base : Heap}
theorem d_row_by (T : Txt K mg) (F : FD K mg "row_by" s_row_by) (c_works : Gn P w K mg base 8 "works" s_works ["setting", "text", "shelf"] (spWorks K)) (c_Shelf___init__ : Fr P w K mg base 6 (He.ma K (cShelf K) "__init__") ["self", "setting"] [] (spShInit K)) : Dn P w K mg base 12 "row_by" s_row_by ["setting", "text"] (spRowBy K) := by
  refine dn_of F (fun _ _ _ _ _ _ us hl => match us, hl with | [_, _], _ => rfl) sc_row_by (fun vs H Q E h => ?_) (fun fa cdv A outer s H vs Q E hr h => ?_)
  · obtain ⟨a, S, l, rfl, _⟩ := h
    rfl
  · obtain ⟨a, S, l, rfl, hS, hl, habc, k⟩ := h
    have sz := sizeLine_eq
    refine ⟨_, PSs.nox (pss_cons (ps_set (i := 2) sc_row_by.nd rfl (Or.inr rfl) (pe_mk c_Shelf___init__ T.mk_shelf T.gc_shelf hr (by decide) rfl (pa_cons (pv 0) pa_nil)))
 (pss_cons (ps_set (i := 3) sc_row_by.nd rfl (Or.inl rfl) (pe_gl c_works hr (by decide) rfl rfl T.n_list (pa_cons (pv 0) (pa_cons (pv 1) (pa_cons (pv 2) pa_nil)))))
 (pss_one (ps_ret (pe_callTy cl_tupOf (by rfl) T.n_tuple (by decide +kernel) (pa_cons (pe_lc (own := [("word", 4), ("letter", 5), ("number", 6), ("grown", 7)]) (tt := tYes) (g := gTup K 4 (gCons (gName 4) (gCons (gName 5) (gCons (gName 6) (gCons (gName 7) (gNil)))))) rfl sc_row_by.nd (pi_list (pv 3)) (blkOk_by (N := ["setting", "text", "shelf", "steps", "word", "letter", "number", "grown"]) (sc := defScope s_row_by) (by decide +kernel)) (fun _ _ _ _ _ => (pg_tup rfl (pgs_cons (pg_name (i := 4) sc_row_by.nd rfl (Or.inl rfl)) (pgs_cons (pg_name (i := 5) sc_row_by.nd rfl (Or.inl rfl)) (pgs_cons (pg_name (i := 6) sc_row_by.nd rfl (Or.inl rfl)) (pgs_cons (pg_name (i := 7) sc_row_by.nd rfl (Or.inl rfl)) pgs_nil)))))) (fun _ _ _ _ _ => pts_nil) (fun _ _ _ _ _ => (pe_ifExp (pt_val (pe_fldK (K := K) rfl (pv 2) rfl) (by intro _; rfl)) (pv 4) (pe_op op_addS (pv 4) (pv 5))))) pa_nil)))))), ?_⟩
    refine w_start (σ := [some (.ref a), some (.str (SX.S l)), none, none, none, none, none, none]) rfl ?_
    repeat walk_at "st"
    refine fun s dx hs hdx ne => ⟨H, s, a, S, dx, rfl, same_two hs hdx, hs, hS, upd_same, fun H1 sh => ⟨rfl, ?_⟩⟩
    repeat walk_at "st"
    refine ⟨H, s, a, S, l, rfl, sh, hl, habc, fun ys H2 H3 st e3 sh2 pr => ?_⟩
    intro p hp
    obtain ⟨e32, _, _, dx3, d3, b3, _, _, hs2, _, _⟩ := id sh2
    have nsp : s ≠ p := ne_of_none hs2 hp
    have hl2 : (stepsOf S l).length ≤ 100000 := Nat.le_trans (steps_len S _ _ _) hl
    have yl : ys.length = (stepsOf S l).length := paired_len pr
    repeat walk_at "st"
    refine lc_anyL (upd H2 p (.lst ys)) p ys (fun D i H' => Same (upd H2 p (.lst ys)) H' ∧ H' D = some (.lst (((stepsOf S l).take i).map fun x => strW (rowW S x)))) (fun R hR => ?_) (SqL.of upd_same) (fun D hD => ⟨same_new hD (Same.refl _), upd_same⟩) (fun D i H' ⟨e, _⟩ => SqL.of (e _ _ upd_same)) (fun D i x H4 hD hx ⟨e4, hd4⟩ => ?_) fun D H4 hD ⟨e4, hd4⟩ => ?_
    · repeat walk_at "st"
      exact hR
    · obtain ⟨y, hy, t, rfl, ht⟩ := paired_at pr hx
      have ntp : t ≠ p := ne_of_none (e32 _ _ ht) hp
      have ht4 : H4 t = some (.tup (stpV y)) := e4 _ _ (by rw [upd_ne ntp]; exact e32 _ _ ht)
      have hs4 := e4 s _ (by rw [upd_ne nsp]; exact hs2)
      have hym := List.mem_of_getElem? hy
      obtain ⟨lw1, lw2⟩ := steps_wl S _ _ _ y hym
      have lw : (SX.S y.w).length ≤ 1000000 := by rw [sx_len]; omega
      have llt : (SX.S y.l).length ≤ 1000000 := by rw [sx_len]; omega
      have hi : i < (stepsOf S l).length := (List.getElem?_eq_some_iff.mp hy).1
      have fin : ∀ v : V, v = strW (rowW S y) → ∃ acc, H4 D = some (.lst acc) ∧ acc.length < sizeLine ∧ Same (upd H2 p (.lst ys)) (upd H4 D (.lst (acc ++ [v]))) ∧
          upd H4 D (.lst (acc ++ [v])) D = some (.lst (((stepsOf S l).take (i + 1)).map fun x => strW (rowW S x))) := by
        rintro v rfl
        refine ⟨_, hd4, by rw [List.length_map, List.length_take]; omega, fun c o hc => ?_, ?_⟩
        · rw [upd_ne (ne_of_none hc hD)]
          exact e4 c o hc
        · rw [upd_same, List.take_add_one, hy, List.map_append]
          rfl
      unfold stpV at ht4
      simp only [wipe, List.map, List.set]
      repeat walk_at "st"
      refine ⟨rfl, ?_⟩
      simp only [tYes, if_true]
      repeat walk_at "st"
      cases hh : S.hid with
      | true =>
        repeat walk_at "st"
        exact fin _ (by unfold rowW; rw [if_pos hh]; rfl)
      | false =>
        repeat walk_at "st"
        rw [SX.S_cat]
        exact fin _ (by unfold rowW; rw [if_neg (by rw [hh]; decide)]; rfl)
    · rw [yl, List.take_length] at hd4
      repeat walk_at "st"
      refine w_tupOf hd4 fun t ht => ?_
      repeat walk_at "st"
      have e5 : Same H H4 := (e3.trans (e32.trans (same_new hp (Same.refl H2)))).trans e4
      refine k t _ (same_new (same_free e5 ht) e5) (same_free e5 ht) ?_
      rw [upd_same]
      unfold rowOf
      rw [List.map_map]
      rfl
def spSetCall (K : PySem.W.Frag) (h0 : Bool) : Sp := fun vs H Q _ => ∃ a S l, vs = [.ref a, .str (SX.S l)] ∧ S.hid = h0 ∧ SetAt K H a S ∧ l.length ≤ 5000 ∧ (∀ c ∈ l, c ∈ abcL.take S.q) ∧ ∀ t H', Same H H' → H t = none → H' t = some (.tup ((rowOf S l).map strW)) → Q (.ref t) H'
theorem len_Setting_call {h0 : Bool} : ∀ vs H Q E, spSetCall K h0 vs H Q E → vs.length = 2 := by
  rintro vs H Q E ⟨a, S, l, rfl, _⟩
  rfl
theorem b_Setting_call (T : Txt K mg) (h0 : Bool) (c_need_text : Dn P w K mg base 1 "need_text" s_need_text ["value", "letters"] (spNeedT)) (c_row_by : Dn P w K mg base 12 "row_by" s_row_by ["setting", "text"] (spRowBy K)) : BodyOk P w K mg base 12 "Setting.__call__" s_Setting___call__ ["self", "text"] (spSetCall K h0) := by
  refine fun fa cdv A outer s H vs Q E hr h => ?_
  obtain ⟨a, S, l, rfl, hh, hS, hl, habc, k⟩ := h
  subst hh
  obtain ⟨dx0, l0, ha, hlim, q1, q2⟩ := id hS
  refine ⟨_, PSs.nox (pss_cons (ps_expr (pe_d c_need_text hr (by decide) rfl (pa_cons (pv 1) (pa_cons (pe_fld (pv 0) rfl) pa_nil))))
 (pss_one (ps_ret (pe_d c_row_by hr (by decide) rfl (pa_cons (pv 0) (pa_cons (pv 1) pa_nil)))))), ?_⟩
  refine w_start (σ := [some (.ref a), some (.str (SX.S l))]) rfl ?_
  repeat walk_at "st"
  refine ⟨l, (S.q : Int), rfl, by omega, by rw [Int.toNat_natCast]; exact habc, hl, fun H1 e1 => ?_⟩
  repeat walk_at "st"
  refine ⟨a, S, l, rfl, hS.same e1, by omega, habc, fun t H2 e2 ht h2 => ?_⟩
  exact k t H2 (e1.trans e2) (same_free e1 ht) h2
theorem d_Setting_call (T : Txt K mg) (h0 : Bool) {f : Addr} (F : FA K "__call__" "Setting.__call__" s_Setting___call__ [] f) (c_need_text : Dn P w K mg base 1 "need_text" s_need_text ["value", "letters"] (spNeedT)) (c_row_by : Dn P w K mg base 12 "row_by" s_row_by ["setting", "text"] (spRowBy K)) : Fr P w K mg base (12 + 1) f ["self", "text"] [] (spSetCall K h0) :=
  fr_of0 F (fun _ _ _ _ _ _ us hl => match us, hl with | [_, _], _ => rfl) sc_Setting___call__ len_Setting_call (b_Setting_call T h0 c_need_text c_row_by)
theorem dn_Setting_call (T : Txt K mg) (h0 : Bool) {f : Addr} (F : FA K "__call__" "Setting.__call__" s_Setting___call__ [] f) (c_need_text : Dn P w K mg base 1 "need_text" s_need_text ["value", "letters"] (spNeedT)) (c_row_by : Dn P w K mg base 12 "row_by" s_row_by ["setting", "text"] (spRowBy K)) : FrN P w K mg base (12 + 1) f ["self", "text"] ["text"] (spSetCall K h0) :=
  frn_of F (fun _ _ _ _ _ _ _ ws hl => match ws, hl with | [_], _ => rfl) sc_Setting___call__ len_Setting_call (b_Setting_call T h0 c_need_text c_row_by)
end

/-! ### a row gives its text back -/
theorem steps_join {S : Sg} : ∀ (f n : Nat) (st : Shf) (r : Wd), ShOk S st n → r.length ≤ f → ((stepsF S f st r).map (rowW S)).flatten = r
  | 0, n, st, r, ok, hf => by
    have e : r = [] := List.length_eq_zero_iff.mp (Nat.le_zero.mp hf)
    rw [e]
    rfl
  | f + 1, n, st, r, ok, hf => by
    unfold stepsF
    by_cases hr : r = []
    · rw [if_pos hr, hr]
      rfl
    · rw [if_neg hr, List.map_cons, List.flatten_cons]
      have hb : bas S ≤ lgst S st.ws r := lsz_ge _ _ _ _
      have h0 : 0 < r.length := List.length_pos_iff.mpr hr
      have ok2 : ShOk S (step1 S st r).2.1 (n + 1) := by
        show ShOk S (if _ then _ else _) _
        split
        · exact growS_ok ok
        · exact ok.mono (Nat.le_succ n)
      have hl : (step1 S st r).2.2.length ≤ f := by
        show (r.drop _).length ≤ f
        rw [List.length_drop]
        unfold bas at hb
        split at hb <;> split <;> simp_all <;> omega
      rw [steps_join f (n + 1) _ _ ok2 hl]
      show rowW S (step1 S st r).1 ++ r.drop (if S.hid = true then lgst S st.ws r else lgst S st.ws r + 1) = r
      unfold rowW
      by_cases hh : S.hid = true
      · rw [if_pos hh, if_pos hh]
        exact List.take_append_drop _ _
      · rw [if_neg hh, if_neg hh]
        show (r.take _ ++ (r.drop _).take 1) ++ r.drop _ = r
        rw [← List.take_add]
        exact List.take_append_drop _ _
theorem row_join (S : Sg) (l : Wd) : (rowOf S l).flatten = l :=
  steps_join l.length 0 ⟨firstW S, 0⟩ l ⟨fun w h => h, by have := first_len S; exact this⟩ (Nat.le_refl _)

/-! ### the law's own look for the longest known word -/
def scan1 (r : Wd) (w one : Wd) : Wd := if one.length > w.length ∧ r.take one.length = one then one else w
def scanL (L : List Wd) (r : Wd) : Wd := L.foldl (scan1 r) []
/-- with each word its beginnings are known -/
def PC (S : Sg) (L : List Wd) : Prop := ∀ w ∈ L, bas S ≤ w.length ∧ ∀ k, bas S ≤ k → k ≤ w.length → w.take k ∈ L
theorem lsz_max {L : List Wd} {r w : Wd} (hp : r.take w.length = w) : ∀ (f s : Nat), r.length - s ≤ f → s ≤ w.length → (∀ k, s ≤ k → k ≤ w.length → w.take k ∈ L) → w.length ≤ lsz L r f s
  | 0, s, hf, hs, hk => by
    have hwr : w.length ≤ r.length := by
      have := congrArg List.length hp
      rw [List.length_take] at this
      omega
    show w.length ≤ s
    omega
  | f + 1, s, hf, hs, hk => by
    have hwr : w.length ≤ r.length := by
      have := congrArg List.length hp
      rw [List.length_take] at this
      omega
    unfold lsz
    by_cases e : s = w.length
    · split
      · have := lsz_ge L r f (s + 1)
        omega
      · omega
    · have lt : s < w.length := by omega
      have hin : r.take (s + 1) ∈ L := by
        have h1 := hk (s + 1) (by omega) lt
        have h2 : w.take (s + 1) = r.take (s + 1) := by
          conv => lhs; rw [← hp]
          rw [List.take_take, Nat.min_eq_left lt]
        rw [← h2]
        exact h1
      rw [if_pos ⟨by omega, hin⟩]
      exact lsz_max hp f (s + 1) (by omega) lt fun k a b => hk k (by omega) b
theorem scan_ok {r : Wd} : ∀ (L : List Wd) (w0 : Wd), r.take w0.length = w0 → (r.take (L.foldl (scan1 r) w0).length = L.foldl (scan1 r) w0) ∧ (L.foldl (scan1 r) w0 = w0 ∨ L.foldl (scan1 r) w0 ∈ L) ∧
    w0.length ≤ (L.foldl (scan1 r) w0).length ∧ ∀ x ∈ L, r.take x.length = x → x.length ≤ (L.foldl (scan1 r) w0).length
  | [], w0, h => ⟨h, .inl rfl, Nat.le_refl _, fun x hx => (nomatch hx)⟩
  | y :: L, w0, h => by
    rw [List.foldl_cons]
    by_cases c : y.length > w0.length ∧ r.take y.length = y
    · have e : scan1 r w0 y = y := if_pos c
      rw [e]
      obtain ⟨a, b, d, g⟩ := scan_ok L y c.2
      refine ⟨a, .inr ?_, by omega, fun x hx hr => ?_⟩
      · rcases b with b | b
        · rw [b]; exact List.mem_cons_self
        · exact List.mem_cons_of_mem _ b
      · rcases List.mem_cons.mp hx with rfl | hx
        · exact d
        · exact g x hx hr
    · have e : scan1 r w0 y = w0 := if_neg c
      rw [e]
      obtain ⟨a, b, d, g⟩ := scan_ok L w0 h
      refine ⟨a, b.elim .inl fun b => .inr (List.mem_cons_of_mem _ b), d, fun x hx hr => ?_⟩
      rcases List.mem_cons.mp hx with rfl | hx
      · have : ¬ x.length > w0.length := fun z => c ⟨z, hr⟩
        omega
      · exact g x hx hr
theorem scan_eq {S : Sg} {st : Shf} {n : Nat} {r : Wd} (ok : ShOk S st n) (pc : PC S st.ws) (hr : r ≠ []) (hl : ∀ c ∈ r, c ∈ abcL.take S.q) : scanL st.ws r = r.take (lgst S st.ws r) := by
  obtain ⟨a, b, d, g⟩ := scan_ok (r := r) st.ws [] rfl
  have hn : lgst S st.ws r ≤ r.length := lsz_le _ _ _ _ (bas_le hr)
  have hin : r.take (lgst S st.ws r) ∈ st.ws := lsz_in _ _ _ _ (base_in ok hr hl)
  have h1 := g _ hin (by rw [List.length_take, Nat.min_eq_left hn])
  rw [List.length_take, Nat.min_eq_left hn] at h1
  have h2 : (scanL st.ws r).length ≤ lgst S st.ws r := by
    rcases b with b | b
    · show (List.foldl (scan1 r) [] st.ws).length ≤ _
      rw [b]
      exact Nat.zero_le _
    · obtain ⟨p1, p2⟩ := pc _ b
      exact lsz_max a _ _ (Nat.le_refl _) p1 p2
  have h3 : (scanL st.ws r).length = lgst S st.ws r := Nat.le_antisymm h2 h1
  have a' : r.take (scanL st.ws r).length = scanL st.ws r := a
  rw [← a', h3]
theorem pc_first (S : Sg) : PC S (firstW S) := by
  intro w hw
  unfold firstW at hw ⊢
  unfold bas
  by_cases h : S.hid = true
  · rw [if_pos h] at hw ⊢
    simp only [if_pos h]
    obtain ⟨c, hc, rfl⟩ := List.mem_map.mp hw
    refine ⟨Nat.le_refl _, fun k k1 k2 => ?_⟩
    have e : k = 1 := Nat.le_antisymm k2 k1
    rw [e]
    exact hw
  · rw [if_neg h] at hw ⊢
    simp only [if_neg h]
    rw [List.mem_singleton.mp hw]
    exact ⟨Nat.le_refl _, fun k _ _ => by simp⟩
theorem pc_grow {S : Sg} {L : List Wd} {w l : Wd} (pc : PC S L) (hw : w ∈ L) (hl : l.length ≤ 1) : PC S (L ++ [w ++ l]) := by
  obtain ⟨p1, p2⟩ := pc w hw
  intro x hx
  rcases List.mem_append.mp hx with hx | hx
  · obtain ⟨a, b⟩ := pc x hx
    exact ⟨a, fun k k1 k2 => List.mem_append_left _ (b k k1 k2)⟩
  · rw [List.mem_singleton.mp hx]
    refine ⟨by rw [List.length_append]; omega, fun k k1 k2 => ?_⟩
    rw [List.length_append] at k2
    by_cases e : k ≤ w.length
    · rw [List.take_append_of_le_length e]
      exact List.mem_append_left _ (p2 k k1 e)
    · rw [List.take_of_length_le (by rw [List.length_append]; omega)]
      exact List.mem_append_right _ List.mem_cons_self
/-- a longest known word with a letter behind it is not known -/
theorem fresh_new {S : Sg} {L : List Wd} {r : Wd} (hb : bas S ≤ r.length) (pc : PC S L) (h : (r.drop (lgst S L r)).take 1 ≠ []) : r.take (lgst S L r) ++ (r.drop (lgst S L r)).take 1 ∉ L := by
  intro m
  have hn : lgst S L r ≤ r.length := lsz_le _ _ _ _ hb
  have lt : lgst S L r < r.length := by
    rcases Nat.lt_or_ge (lgst S L r) r.length with y | y
    · exact y
    · exact absurd (by rw [List.drop_eq_nil_of_le y]; rfl) h
  have e : r.take (lgst S L r) ++ (r.drop (lgst S L r)).take 1 = r.take (lgst S L r + 1) := by rw [List.take_add]
  rw [e] at m
  obtain ⟨p1, p2⟩ := pc _ m
  have l1 : (r.take (lgst S L r + 1)).length = lgst S L r + 1 := by rw [List.length_take]; omega
  have := lsz_max (L := L) (r := r) (w := r.take (lgst S L r + 1)) (by rw [l1]) (r.length - bas S) (bas S) (Nat.le_refl _) p1 p2
  rw [l1] at this
  exact absurd this (Nat.not_succ_le_self _)

/-! ### lists or tuples of ints -/
def Seq2 (H : Hp) (x : V) (xs : List V) : Prop := ∃ a, x = .ref a ∧ (H a = some (.lst xs) ∨ H a = some (.tup xs))
theorem Seq2.same {H H' : Hp} {x : V} {xs : List V} (e : Same H H') (h : Seq2 H x xs) : Seq2 H' x xs := let ⟨a, h1, h2⟩ := h; ⟨a, h1, h2.elim (fun h => .inl (e _ _ h)) fun h => .inr (e _ _ h)⟩
theorem Seq2.row {K : PySem.W.Frag} {H : Hp} {x : V} {xs : List V} (h : Seq2 H x xs) : Row K H x xs := by
  obtain ⟨a, rfl, h | h⟩ := h
  · exact .lst (SqL.of h)
  · exact .tup (SqT.of h)
theorem for_ite {K : PySem.W.Frag} {a : Addr} {xs : List V} {g : TG} {tb : TS} {D : Ends} {σ : L2.St} {H : Hp} (Pv : Nat → L2.St → Hp → Prop) (h0 : Pv 0 σ H) (hl : ∀ i σ H, Pv i σ H → SqL K H a xs)
    (hs : ∀ i x T σ H, xs[i]? = some x → Pv i σ H → H T = none → g (.ref T) σ (upd H T (.tup [.int (i : Nat), x])) fun σ2 H2 => tb { D with nx := Pv (i + 1), ct := Pv (i + 1), bk := D.nx } σ2 H2) (hd : ∀ σ H, Pv xs.length σ H → D.nx σ H) :
    ∃ W : Nat → Nat → L2.St → Hp → Prop, (∃ m, W 0 m σ H) ∧ ∀ i m σ H, W i m σ H →
      ((Ite K a).stop i H ∧ D.nx σ H) ∨ ((Ite K a).go i H ∧ ∃ N : L2.St → Hp → Prop, (∀ σ' H', N σ' H' → ∃ m', m' < m ∧ W (i + 1) m' σ' H') ∧ ∀ x H', (Ite K a).yld i H x H' → g x σ H' fun σ2 H2 => tb { D with nx := N, ct := N, bk := D.nx } σ2 H2) := by
  refine ⟨fun i m σ H => m = xs.length - i ∧ i ≤ xs.length ∧ Pv i σ H, ⟨xs.length, by simp, Nat.zero_le _, h0⟩, ?_⟩
  rintro i m σ H ⟨rfl, hi, p⟩
  have q := hl i σ H p
  rcases Nat.lt_or_ge i xs.length with c | c
  · refine .inr ⟨⟨xs, xs[i], q, List.getElem?_eq_getElem c⟩, Pv (i + 1), fun σ' H' p' => ⟨xs.length - (i + 1), by omega, rfl, c, p'⟩, fun x H' y => ?_⟩
    obtain ⟨T, x', rfl, hT, rfl, hx⟩ := y
    exact hs i x' T σ H (hx xs q) p hT
  · obtain rfl : i = xs.length := by omega
    exact .inl ⟨⟨xs, q, Nat.le_refl _⟩, hd σ H p⟩
section
variable {K : PySem.W.Frag} {σ : L2.St} {H : Hp} {Q : VK} {x : V} {xs : List V} {ta : TA} {ts te : TE} {g : TG} {tb : TS} {D : Ends} {k : Nat} {vs : List Nat}
theorem for_enum2 (h : Seq2 H x xs) (hta : ∀ R : List V → Hp → Prop, R [x] H → ta σ H R) (Pv : Nat → L2.St → Hp → Prop) (h0 : Pv 0 σ H) (hS : ∀ i σ H', Pv i σ H' → ∀ a o, x = .ref a → H a = some o → H' a = some o)
    (hs : ∀ i y T σ H, xs[i]? = some y → Pv i σ H → H T = none → g (.ref T) σ (upd H T (.tup [.int (i : Nat), y])) fun σ2 H2 => tb { D with nx := Pv (i + 1), ct := Pv (i + 1), bk := D.nx } σ2 H2) (hd : ∀ σ H, Pv xs.length σ H → D.nx σ H) :
    tFor (iTwo (iEnum K ta) (iEnumT K ta)) g tb D σ H := by
  obtain ⟨a, rfl, h | h⟩ := h
  · exact w_for (.inl (hta _ ⟨a, xs, rfl, SqL.of h, for_ite Pv h0 (fun i σ H' p => SqL.of (hS i σ H' p _ _ rfl h)) hs hd⟩))
  · exact w_for (.inr (hta _ ⟨a, xs, rfl, SqT.of h, for_itw Pv h0 (fun i σ H' p => SqT.of (hS i σ H' p _ _ rfl h)) hs hd⟩))
theorem lc_seq (f : V → V) (h : Seq2 H x xs) (hts : ∀ R : VK, R x H → ts σ H R) (hl : xs.length ≤ sizeLine)
    (hel : ∀ y ∈ xs, ∀ H', Same H H' → ∀ R : VK, (∀ H'', Same H' H'' → R (f y) H'') → te ((wipe σ vs).set k (some y)) H' R)
    (q : ∀ D H', H D = none → Same H H' → H' D = some (.lst (xs.map f)) → Q (.ref D) H') (hw : ∀ v, wipe ((wipe σ vs).set k (some v)) vs = wipe σ vs := by intro _; rfl) :
    tLc (iTwo (iList K ts) (iTup K ts)) (gName k) tYes te vs σ H Q := by
  obtain ⟨a, rfl, h | h⟩ := h
  · exact w_lc (.inl (hts _ ⟨a, rfl, ⟨xs, SqL.of h⟩, lcI_map f (pureIt_list (SqL.of h)) hl hel q hw⟩))
  · exact w_lc (.inr (hts _ ⟨a, rfl, ⟨xs, SqT.of h⟩, lcI_map f (pureIt_tup (SqT.of h)) hl hel q hw⟩))
theorem w_lenSq (h : Seq2 H x xs) (q : Q (.int xs.length) H) : rLenQ K [x] H Q := by
  obtain ⟨a, rfl, h | h⟩ := h
  · exact ⟨a, xs, rfl, .inl (SqL.of h), q⟩
  · exact ⟨a, xs, rfl, .inr (SqT.of h), q⟩
theorem w_listSq (h : Seq2 H x xs) (q : ∀ l, H l = none → Q (.ref l) (upd H l (.lst xs))) : rListOf K [x] H Q := by
  obtain ⟨a, rfl, h | h⟩ := h
  · exact ⟨a, xs, rfl, .inl (SqL.of h), q⟩
  · exact ⟨a, xs, rfl, .inr (SqT.of h), q⟩
/-- isinstance(x, (list, tuple)) -/
theorem w_isiSq (h : Seq2 H x xs) {tp : Addr} (htp : H tp = some (.tup [.ty "list", .ty "tuple"])) (q : Q (.bl true) H) : rIsiT K [x, .ref tp] H Q := by
  obtain ⟨a, rfl, h | h⟩ := h
  · exact ⟨.ref a, tp, _, .type "list", [.type "list", .type "tuple"], true, rfl, htp, .cons (.ty _) (.cons (.ty _) .nil), (BV.lst h).ty, kitAny_cons (b := true) (kit_ty (by decide +kernel)) (fun z => nomatch z) (fun _ => rfl), q⟩
  · exact ⟨.ref a, tp, _, .type "tuple", [.type "list", .type "tuple"], true, rfl, htp, .cons (.ty _) (.cons (.ty _) .nil), (BV.tup h).ty, kitAny_cons (b := false) (kit_ty (by decide +kernel)) (fun _ => kitAny_cons (b := true) (kit_ty (by decide +kernel)) (fun z => nomatch z) (fun _ => rfl)) (fun _ => rfl), q⟩
end
theorem w_disp {σ : L2.St} {H : Hp} {Q : VK} {trs : List (TE × TE)} (q : ∀ p, H p = none → tPairs trs σ (upd H p (.dK [])) fun ps H2 => H2 p = some (.dK []) ∧ ∃ kvs : List (Key × V), ps = kvs.map (fun kv => (kV kv.1, kv.2)) ∧ kvs.length ≤ 15 ∧ Q (.ref p) (upd H2 p (.dK (mergeK [] kvs)))) : tDisp trs σ H Q := q
theorem w_pc {σ : L2.St} {H : Hp} {tk tv : TE} {r : List (TE × TE)} {R : List (V × V) → Hp → Prop} (q : tk σ H fun x H1 => tv σ H1 fun y H2 => tPairs r σ H2 fun ps H3 => R ((x, y) :: ps) H3) : tPairs ((tk, tv) :: r) σ H R := q
theorem w_pn {σ : L2.St} {H : Hp} {R : List (V × V) → Hp → Prop} (q : R [] H) : tPairs [] σ H R := q
theorem w_dget2 {σ : L2.St} {H : Hp} {Q : VK} {td ty tx : TE} (q : td σ H fun x H1 => ∃ a, x = .ref a ∧ IsD H1 a ∧ ty σ H1 fun y H2 => tx σ H2 fun z H3 => ∃ o, DGet H3 a y o ∧ Q (o.getD z) H3) : tDGet2 td ty tx σ H Q := q

/-! ### counts.py -/
def IntsOk (ns : List Int) : Prop := (∀ n ∈ ns, 1 ≤ n ∧ n ≤ 5000) ∧ ns.sum ≤ 5000 ∧ ns.length ≤ 5000
/-- how many words of so many letters stand ahead, the empty one among them -/
def ahd (pre : List Int) (z : Int) : Int := (if z = 0 then 1 else 0) + (pre.count z : Nat)
def chAt (q : Int) (ns : List Int) (i : Nat) : Int :=
  if i + 1 = ns.length then q * ahd (ns.take i) (ns.getD i 0 - 1) else q * ahd (ns.take i) (ns.getD i 0 - 1) - ahd (ns.take i) (ns.getD i 0)
def chs (q : Int) (ns : List Int) : List Int := (List.range ns.length).map (chAt q ns)
def prodO (ms : List Int) : Int := ms.foldl (fun acc m => acc * (if m > 0 then m else 0)) 1
def spNeedLens (K : PySem.W.Frag) : Sp := fun vs H Q _ => ∃ x ns, vs = [x] ∧ Seq2 H x (ns.map V.int) ∧ IntsOk ns ∧ ∀ H', Same H H' → Q .non H'
def spChoices (K : PySem.W.Frag) : Sp := fun vs H Q _ => ∃ q x ns, vs = [.int q, x] ∧ Seq2 H x (ns.map V.int) ∧ IntsOk ns ∧ 2 ≤ q ∧ q ≤ 26 ∧ ∀ a H', Same H H' → H a = none → H' a = some (.lst ((chs q ns).map V.int)) → Q (.ref a) H'
def spProduct : Sp := fun vs H Q _ => ∃ a ms, vs = [.ref a] ∧ H a = some (.lst (ms.map V.int)) ∧ (∀ m ∈ ms, -1000000 ≤ m ∧ m ≤ 1000000) ∧ Q (.int (prodO ms)) H
def spRowCount (K : PySem.W.Frag) : Sp := fun vs H Q _ => ∃ q x ns, vs = [.int q, x] ∧ Seq2 H x (ns.map V.int) ∧ IntsOk ns ∧ 2 ≤ q ∧ q ≤ 26 ∧ ∀ H', Same H H' → Q (.int (prodO (chs q ns))) H'
def spLengthsOf (K : PySem.W.Frag) : Sp := fun vs H Q _ => ∃ (q : Nat) (l : List Nat), vs = [.int q, .str (SX.S l)] ∧ 2 ≤ q ∧ q ≤ 26 ∧ l.length ≤ 5000 ∧ (∀ c ∈ l, c ∈ abcL.take q) ∧ ∀ t H', Same H H' → H t = none → H' t = some (.tup ((rowOf ⟨false, q, .free, 0⟩ l).map fun w => V.int (w.length : Nat))) → Q (.ref t) H'
theorem ahd_bound (pre : List Int) (z : Int) : 0 ≤ ahd pre z ∧ ahd pre z ≤ 1 + pre.length := by
  have := List.count_le_length (a := z) (l := pre)
  unfold ahd
  split <;> omega
theorem chs_bound {q : Int} {ns : List Int} (ok : IntsOk ns) (q1 : 2 ≤ q) (q2 : q ≤ 26) : ∀ m ∈ chs q ns, -1000000 ≤ m ∧ m ≤ 1000000 := by
  intro m hm
  obtain ⟨i, hi, rfl⟩ := List.mem_map.mp hm
  have hi' := List.mem_range.mp hi
  have hl := ok.2.2
  have tl : (ns.take i).length ≤ 5000 := by rw [List.length_take]; omega
  obtain ⟨a1, a2⟩ := ahd_bound (ns.take i) (ns.getD i 0 - 1)
  obtain ⟨b1, b2⟩ := ahd_bound (ns.take i) (ns.getD i 0)
  have c1 : 0 ≤ q * ahd (ns.take i) (ns.getD i 0 - 1) := Int.mul_nonneg (by omega) a1
  have c2 : q * ahd (ns.take i) (ns.getD i 0 - 1) ≤ 26 * 5001 := Int.mul_le_mul q2 (by omega) a1 (by omega)
  unfold chAt
  split <;> omega
/-- what the dict holds behind the first lengths -/
def aheadD : List Int → List (Key × V)
  | [] => [(Sum.inl 0, .int 1)]
  | n :: pre => putK (aheadD pre) (Sum.inl n) (.int (ahd pre.reverse n + 1))
theorem ahead_val : ∀ (pre : List Int) (z : Int), (valV (aheadD pre) (Sum.inl z)).getD (.int 0) = .int (ahd pre.reverse z)
  | [], z => by
    unfold aheadD ahd
    by_cases e : z = 0
    · subst e
      rw [valV_pos rfl]
      rfl
    · rw [valV_neg (fun y => e (by injection y with y; exact y.symm))]
      simp [valV_nil, e]
  | n :: pre, z => by
    unfold aheadD
    rw [valV_put]
    by_cases e : z = n
    · subst e
      rw [if_pos rfl]
      show V.int _ = V.int _
      congr 1
      unfold ahd
      rw [List.reverse_cons, List.count_append]
      simp
      omega
    · rw [if_neg (fun y => e (by injection y)), ahead_val pre z]
      congr 1
      unfold ahd
      rw [List.reverse_cons, List.count_append, List.count_singleton]
      have : (n == z) = false := beq_eq_false_iff_ne.mpr fun y => e y.symm
      simp [this]
theorem ahead_len : ∀ pre : List Int, (aheadD pre).length ≤ pre.length + 1
  | [] => Nat.le_refl _
  | n :: pre => by
    have := ahead_len pre
    unfold aheadD putK
    split
    · rw [List.length_map, List.length_cons]
      omega
    · rw [List.length_append, List.length_cons]
      simp
      omega
set_option hygiene false in
local macro_rules | `(tactic| walk_at "st") => `(tactic| first
  | ((with_reducible refine' w_aug ?h ?_); (case h => exact rfl))
  | (with_reducible first | refine w_bm ?_ | refine w_fldAug ?_ | refine w_seqU ?_ | refine w_enumL ?_)
  | ((with_reducible refine' w_tyL ?h ?_); (case h => walk_at "hp"))
  | ((with_reducible refine' w_enumLAt ?h ?_); (case h => walk_at "hp")))

set_option hygiene false in
local macro_rules | `(tactic| walk_at "st") => `(tactic| (with_reducible first | refine w_pc ?_ | refine w_pn ?_ | refine w_dget2 ?_ | refine w_bm ?_))
section
variable {P : Program} {w : World} {K : PySem.W.Frag} {mg : Str → Option Value} {base : Heap}
theorem d_need_lengths (T : Txt K mg) (F : FD K mg "need_lengths" s_need_lengths) (c_is_between : Dn P w K mg base 2 "is_between" s_is_between ["value", "least", "most"] (spBetween)) : Dn P w K mg base 3 "need_lengths" s_need_lengths ["lengths"] (spNeedLens K) := by
  refine dn_of F (fun _ _ _ _ _ _ us hl => match us, hl with | [_], _ => rfl) sc_need_lengths (fun vs H Q E h => ?_) (fun fa cdv A outer s H vs Q E hr h => ?_)
  · obtain ⟨x, ns, rfl, _⟩ := h
    rfl
  · obtain ⟨x, ns, rfl, hx, ok, k⟩ := h
    have sz := sizeLine_eq
    refine ⟨_, PSs.nox (pss_cons (ps_if (pt_not (pt_val (pe_callB call_isiT (by rfl) T.n_isinstance (by decide +kernel) (pa_cons (pv 0) (pa_cons (pe_tup (pa_cons (pe_bltn (v := .ty "list") (by rfl) T.n_list (by decide +kernel) rfl) (pa_cons (pe_bltn (v := .ty "tuple") (by rfl) T.n_tuple (by decide +kernel) rfl) pa_nil))) pa_nil))) (by intro _; rfl)))
 (pss_one ps_never)
 pss_nil)
 (pss_cons (ps_for PassesOwn.never rfl (pi_two (pi_enum (by rfl) T.n_enumerate (pa_cons (pv 0) pa_nil)) (pi_enumT (by rfl) T.n_enumerate (pa_cons (pv 0) pa_nil))) (pg_tup rfl (pgs_cons (pg_name (i := 1) sc_need_lengths.nd rfl (Or.inl rfl)) (pgs_cons (pg_name (i := 2) sc_need_lengths.nd rfl (Or.inl rfl)) pgs_nil)))
 (pss_one (ps_if (pt_not (pt_val (pe_d c_is_between hr (by decide) rfl (pa_cons (pv 2) (pa_cons pe_int (pa_cons (pe_gv rfl T.g_MOST_TEXT) pa_nil)))) (by intro _; rfl)))
 (pss_one ps_never)
 pss_nil)))
 (pss_one (ps_if (pt_cmpR op_gt (pe_callB (cr_sum rfl) (by rfl) T.n_sum (by decide +kernel) (pa_cons (pe_lc (own := [("length", 2)]) (tt := tYes) (g := gName 2) rfl sc_need_lengths.nd (pi_two (pi_list (pv 0)) (pi_tup (pv 0))) (blkOk_by (N := ["lengths", "at", "length"]) (sc := defScope s_need_lengths) (by decide +kernel)) (fun _ _ _ _ _ => (pg_name (i := 2) sc_need_lengths.nd rfl (Or.inl rfl))) (fun _ _ _ _ _ => pts_nil) (fun _ _ _ _ _ => (pe_callTy cl_int1 (by rfl) T.n_int (by decide +kernel) (pa_cons (pv 2) pa_nil)))) pa_nil)) (pe_gv rfl T.g_MOST_TEXT) (nomark _))
 (pss_one ps_never)
 pss_nil)))), ?_⟩
    refine w_start (σ := [some x, none, none]) rfl ?_
    with_reducible refine w_seq ?_
    repeat walk_at "st"
    refine ⟨by walk_at "len", fun tp htp => ?_⟩
    repeat walk_at "st"
    have s1 := same_new (o := .tup [.ty "list", .ty "tuple"]) htp (Same.refl H)
    refine w_isiSq (hx.same s1) upd_same ?_
    generalize upd H tp (.tup [.ty "list", .ty "tuple"]) = H1 at s1 ⊢
    have hx1 := hx.same s1
    repeat walk_at "st"
    with_reducible refine w_seq ?_
    refine for_enum2 hx1 (fun R hR => ?_) (fun i σ' H' => ∃ o1 o2, σ' = [some x, o1, o2] ∧ Same H1 H') ⟨none, none, rfl, Same.refl H1⟩ (fun i σ' H' ⟨_, _, _, e⟩ a o _ h => e a o h) ?_ ?_
    · repeat walk_at "st"
      exact hR
    · rintro i y t σ' H2 hy ⟨o1, o2, rfl, e2⟩ ht
      obtain ⟨n, hn, rfl⟩ := List.mem_map.mp (List.mem_of_getElem? hy)
      have hb := ok.1 n hn
      repeat walk_at "st"
      refine ⟨.int n, "int", 1, 5000, rfl, .int n, ?_⟩
      have e : betV 1 5000 (.int n) = true := by
        show (decide (1 ≤ n) && decide (n ≤ 5000)) = true
        rw [decide_eq_true hb.1, decide_eq_true hb.2]
        rfl
      repeat walk_at "st"
      refine w_iteF (by rw [e]; rfl) ?_
      repeat walk_at "st"
      exact ⟨_, _, rfl, same_new (same_free e2 ht) e2⟩
    · rintro σ' H2 ⟨o1, o2, rfl, e2⟩
      have hx2 := hx1.same e2
      repeat walk_at "st"
      refine lc_seq (fun v => v) hx2 (fun R hR => ?_) (by rw [List.length_map]; have := ok.2.2; omega) (fun y hy H' e R hR => ?_) fun D H3 hD e3 hD3 => ?_
      · repeat walk_at "st"
        exact hR
      · obtain ⟨n, hn, rfl⟩ := List.mem_map.mp hy
        simp only [wipe, List.map, List.set]
        repeat walk_at "st"
        exact hR H' (Same.refl _)
      rw [List.map_id'] at hD3
      repeat walk_at "st"
      refine ⟨D, ns, rfl, SqL.of hD3, ?_⟩
      repeat walk_at "st"
      refine w_ite (fun h1 => ?_) (fun h1 => ?_)
      · have := ok.2.1
        omega
      · repeat walk_at "st"
        exact k _ ((s1.trans e2).trans e3)
theorem d_choices_for (T : Txt K mg) (F : FD K mg "choices_for" s_choices_for) : Dn P w K mg base 1 "choices_for" s_choices_for ["letters", "lengths"] (spChoices K) := by
  refine dn_of F (fun _ _ _ _ _ _ us hl => match us, hl with | [_, _], _ => rfl) sc_choices_for (fun vs H Q E h => ?_) (fun fa cdv A outer s H vs Q E hr h => ?_)
  · obtain ⟨q, x, ns, rfl, _⟩ := h
    rfl
  · obtain ⟨q, x, ns, rfl, hx, ok, q1, q2, k⟩ := h
    have sz := sizeLine_eq
    refine ⟨_, PSs.nox (pss_cons (ps_par (i := 2) (j := 3) (by rfl) sc_choices_for.nd rfl rfl (by decide) rfl rfl (pa_cons (pe_lst pa_nil) (pa_cons (pe_disp (pps_cons pe_int pe_int pps_nil) (by rfl) (by rfl) (fun z => by cases z) (by decide)) pa_nil)) (by rfl))
 (pss_cons (ps_for PassesOwn.never rfl (pi_two (pi_enum (by rfl) T.n_enumerate (pa_cons (pv 1) pa_nil)) (pi_enumT (by rfl) T.n_enumerate (pa_cons (pv 1) pa_nil))) (pg_tup rfl (pgs_cons (pg_name (i := 4) sc_choices_for.nd rfl (Or.inl rfl)) (pgs_cons (pg_name (i := 5) sc_choices_for.nd rfl (Or.inl rfl)) pgs_nil)))
 (pss_cons (ps_set (i := 6) sc_choices_for.nd rfl (Or.inl rfl) (pe_op op_mulA (pv 0) (pe_dget2 (hu_of hr) (pv 3) (pe_op op_sub (pv 5) pe_int) pe_int (by constructor <;> rfl))))
 (pss_cons (ps_expr (pe_bm PySem.F.plainAttrs_list PySem.F.slot_list_append PySem.F.type_list_append mt_append (pv 2) (pa_cons (pe_ifExp (pt_cmpR op_eq (pv 4) (pe_op op_sub (pe_callB cl_lenQ (by rfl) T.n_len (by decide +kernel) (pa_cons (pv 1) pa_nil)) pe_int) (nomark _)) (pv 6) (pe_op op_sub (pv 6) (pe_dget2 (hu_of hr) (pv 3) (pv 5) pe_int (by constructor <;> rfl)))) pa_nil)))
 (pss_one (ps_dput (hu_of hr) (pv 3) (pv 5) (pe_op op_add (pe_dget2 (hu_of hr) (pv 3) (pv 5) pe_int (by constructor <;> rfl)) pe_int) rfl)))))
 (pss_one (ps_ret (pv 2))))), ?_⟩
    refine w_start (σ := [some (.int q), some x, none, none, none, none, none]) rfl ?_
    repeat walk_at "st"
    refine ⟨by walk_at "len", fun fo hfo => ?_⟩
    repeat walk_at "st"
    refine w_disp fun dd hdd => ?_
    have nfd : fo ≠ dd := ne_of_none upd_same hdd
    have dd0 : H dd = none := by rw [upd_ne nfd.symm] at hdd; exact hdd
    repeat walk_at "st"
    refine ⟨upd_same, [(Sum.inl 0, .int 1)], rfl, by decide, ?_⟩
    rw [upd_upd', show mergeK [] [((Sum.inl 0 : Key), V.int 1)] = aheadD [] from rfl]
    obtain ⟨H1, eH⟩ : ∃ H1, H1 = upd (upd H fo (.lst [])) dd (.dK (aheadD [])) := ⟨_, rfl⟩
    have s1 : Same H H1 := by
      rw [eH]
      exact same_new dd0 (same_new hfo (Same.refl H))
    have hf1 : H1 fo = some (.lst []) := by rw [eH, upd_ne nfd]; exact upd_same
    have hd1 : H1 dd = some (.dK (aheadD [])) := by rw [eH]; exact upd_same
    rw [← eH]
    clear eH
    repeat walk_at "st"
    with_reducible refine w_seq ?_
    have nx : ∀ a o, x = .ref a → H a = some o → a ≠ fo ∧ a ≠ dd := fun a o _ h => ⟨ne_of_none h hfo, ne_of_none h dd0⟩
    obtain ⟨xa, exa, hxa⟩ := id hx
    have hxo : ∃ o, H xa = some o := hxa.elim (fun h => ⟨_, h⟩) fun h => ⟨_, h⟩
    obtain ⟨ox, hox⟩ := hxo
    refine for_enum2 (hx.same s1) (fun R hR => ?_) (fun i σ' H' => ∃ o4 o5 o6, σ' = [some (.int q), some x, some (.ref fo), some (.ref dd), o4, o5, o6] ∧ Same H H' ∧ H' fo = some (.lst (((List.range i).map (chAt q ns)).map V.int)) ∧ H' dd = some (.dK (aheadD (ns.take i).reverse)))
      ⟨none, none, none, rfl, s1, hf1, hd1⟩ (fun i σ' H' ⟨_, _, _, _, e, _⟩ a o ea ha => ?_) ?_ ?_
    · repeat walk_at "st"
      exact hR
    · rw [exa] at ea
      injection ea with ea
      subst ea
      have h1 := s1 _ _ hox
      rw [ha] at h1
      cases h1
      exact e _ _ hox
    · rintro i y t σ' H2 hy ⟨o4, o5, o6, rfl, e2, hf2, hd2⟩ ht
      obtain ⟨n, hn, rfl⟩ : ∃ n, ns[i]? = some n ∧ y = .int n := by
        rw [List.getElem?_map] at hy
        cases c : ns[i]? with
        | none => rw [c] at hy; cases hy
        | some m => rw [c] at hy; exact ⟨m, rfl, (Option.some.inj hy).symm⟩
      have hi : i < ns.length := (List.getElem?_eq_some_iff.mp hn).1
      have gn : ns.getD i 0 = n := by rw [List.getD_eq_getElem?_getD, hn]; rfl
      have ol := ok.2.2
      have tl : (ns.take i).length = i := by rw [List.length_take]; omega
      have ft : fo ≠ t := ne_of_none hf2 ht
      have dt : dd ≠ t := ne_of_none hd2 ht
      have e3 := same_new (o := .tup [.int (i : Nat), .int n]) (same_free e2 ht) e2
      have hf3 : upd H2 t (.tup [.int (i : Nat), .int n]) fo = some (.lst (((List.range i).map (chAt q ns)).map V.int)) := by rw [upd_ne ft]; exact hf2
      have hd3 : upd H2 t (.tup [.int (i : Nat), .int n]) dd = some (.dK (aheadD (ns.take i).reverse)) := by rw [upd_ne dt]; exact hd2
      have g1 := ahead_val (ns.take i).reverse (n - 1)
      have g2 := ahead_val (ns.take i).reverse n
      rw [List.reverse_reverse] at g1 g2
      have hx3 := hx.same e3
      obtain ⟨b1, b2⟩ := ahd_bound (ns.take i) (n - 1)
      obtain ⟨b3, b4⟩ := ahd_bound (ns.take i) n
      have pl : (((List.range i).map (chAt q ns)).map V.int).length < sizeLine := by rw [List.length_map, List.length_map, List.length_range]; omega
      have pu : aheadD (ns.take (i + 1)).reverse = putK (aheadD (ns.take i).reverse) (Sum.inl n) (.int (ahd (ns.take i) n + 1)) := by
        rw [List.take_add_one, hn, show (some n).toList = [n] from rfl, List.reverse_append, List.reverse_singleton, List.singleton_append]
        show putK _ _ _ = _
        rw [List.reverse_reverse]
      have nod : ∀ {a : Addr} {o : HO}, H a = some o → a ≠ dd := fun ho => ne_of_none ho dd0
      have nof : ∀ {a : Addr} {o : HO}, H a = some o → a ≠ fo := fun ho => ne_of_none ho hfo
      have li : V.int (i : Nat) = V.int (((ns.map V.int).length : Nat) - 1) ↔ i + 1 = ns.length := by
        rw [List.length_map]
        exact ⟨fun z => by injection z with z; omega, fun z => by congr 1; omega⟩
      repeat walk_at "st"
      refine ⟨dd, rfl, .inl ⟨_, .inl hd3⟩, ?_⟩
      repeat walk_at "st"
      refine ⟨_, DGet.k (k := Sum.inl (n - 1)) hd3, ?_⟩
      rw [g1]
      repeat walk_at "st"
      refine w_lenSq hx3 ?_
      repeat walk_at "st"
      refine w_ite (fun h1 => ?_) (fun h1 => ?_)
      · repeat walk_at "st"
        have hd5 : ∀ z, upd (upd H2 t (.tup [.int (i : Nat), .int n])) fo (.lst z) dd = some (.dK (aheadD (ns.take i).reverse)) := fun z => by rw [upd_ne nfd.symm]; exact hd3
        refine w_append (xs := ((List.range i).map (chAt q ns)).map V.int) hf3 pl ?_
        repeat walk_at "st"
        refine ⟨dd, rfl, .inl ⟨_, .inl (hd5 _)⟩, ?_⟩
        repeat walk_at "st"
        refine ⟨_, DGet.k (k := Sum.inl n) (hd5 _), ?_⟩
        rw [g2]
        repeat walk_at "st"
        refine ⟨dd, _, rfl, DPut.k (k := Sum.inl n) (hd5 _) (by have := ahead_len (ns.take i).reverse; rw [List.length_reverse, tl] at this; omega), ?_⟩
        rw [← pu]
        refine ⟨_, _, _, rfl, fun a o ho => ?_, ?_, upd_same⟩
        · rw [upd_ne (nod ho), upd_ne (nof ho)]
          exact e3 _ _ ho
        · rw [upd_ne nfd, upd_same, List.range_succ, List.map_append, List.map_append, List.map_cons, List.map_nil, List.map_cons, List.map_nil, show chAt q ns i = _ by unfold chAt; rw [gn, if_pos (li.mp h1)]]
      · repeat walk_at "st"
        refine ⟨dd, rfl, .inl ⟨_, .inl hd3⟩, ?_⟩
        repeat walk_at "st"
        refine ⟨_, DGet.k (k := Sum.inl n) hd3, ?_⟩
        rw [g2]
        repeat walk_at "st"
        have hd5 : ∀ z, upd (upd H2 t (.tup [.int (i : Nat), .int n])) fo (.lst z) dd = some (.dK (aheadD (ns.take i).reverse)) := fun z => by rw [upd_ne nfd.symm]; exact hd3
        refine w_append (xs := ((List.range i).map (chAt q ns)).map V.int) hf3 pl ?_
        repeat walk_at "st"
        refine ⟨dd, rfl, .inl ⟨_, .inl (hd5 _)⟩, ?_⟩
        repeat walk_at "st"
        refine ⟨_, DGet.k (k := Sum.inl n) (hd5 _), ?_⟩
        rw [g2]
        repeat walk_at "st"
        refine ⟨dd, _, rfl, DPut.k (k := Sum.inl n) (hd5 _) (by have := ahead_len (ns.take i).reverse; rw [List.length_reverse, tl] at this; omega), ?_⟩
        rw [← pu]
        refine ⟨_, _, _, rfl, fun a o ho => ?_, ?_, upd_same⟩
        · rw [upd_ne (nod ho), upd_ne (nof ho)]
          exact e3 _ _ ho
        · rw [upd_ne nfd, upd_same, List.range_succ, List.map_append, List.map_append, List.map_cons, List.map_nil, List.map_cons, List.map_nil, show chAt q ns i = _ by unfold chAt; rw [gn, if_neg fun z => h1 (li.mpr z)]]
    · rintro σ' H2 ⟨o4, o5, o6, rfl, e2, hf2, hd2⟩
      rw [List.length_map] at hf2
      repeat walk_at "st"
      exact k fo H2 e2 hfo hf2
theorem d_product_of (T : Txt K mg) (F : FD K mg "product_of" s_product_of) : Dn P w K mg base 1 "product_of" s_product_of ["numbers"] (spProduct) := by
  refine dn_of F (fun _ _ _ _ _ _ us hl => match us, hl with | [_], _ => rfl) sc_product_of (fun vs H Q E h => ?_) (fun fa cdv A outer s H vs Q E hr h => ?_)
  · obtain ⟨a, ms, rfl, _⟩ := h
    rfl
  · obtain ⟨a, ms, rfl, ha, hb, k⟩ := h
    refine ⟨_, PSs.nox (pss_cons (ps_set (i := 1) sc_product_of.nd rfl (Or.inl rfl) pe_int)
 (pss_cons (ps_for PassesOwn.never rfl (pi_list (pv 0)) (pg_name (i := 2) sc_product_of.nd rfl (Or.inl rfl))
 (pss_one (ps_set (i := 1) sc_product_of.nd rfl (Or.inl rfl) (pe_op op_mulA (pv 1) (pe_callB (call_max2 rfl) (by rfl) T.n_max (by decide +kernel) (pa_cons pe_int (pa_cons (pe_callTy cl_int1 (by rfl) T.n_int (by decide +kernel) (pa_cons (pv 2) pa_nil)) pa_nil)))))))
 (pss_one (ps_ret (pv 1))))), ?_⟩
    refine w_start (σ := [some (.ref a), none, none]) rfl ?_
    repeat walk_at "st"
    with_reducible refine w_seq ?_
    repeat walk_at "st"
    refine L2.for_list (xs := ms.map V.int) (fun i σ' H' => ∃ o2, σ' = [some (.ref a), some (.int (prodO (ms.take i))), o2] ∧ H' = H) ⟨none, rfl, rfl⟩ (fun i σ' H' _ ⟨_, _, e⟩ => by rw [e]; exact SqL.of ha) ?_ ?_
    · rintro i y σ' H' hy ⟨o2, rfl, rfl⟩
      obtain ⟨m, hm, rfl⟩ : ∃ m, ms[i]? = some m ∧ y = .int m := by
        rw [List.getElem?_map] at hy
        cases c : ms[i]? with
        | none => rw [c] at hy; cases hy
        | some m => rw [c] at hy; exact ⟨m, rfl, (Option.some.inj hy).symm⟩
      have bm := hb m (List.mem_of_getElem? hm)
      repeat walk_at "st"
      refine ⟨_, _, rfl, ?_⟩
      refine ⟨_, _, rfl, rfl, .inl (.inr ⟨by split <;> omega, by split <;> omega⟩), ?_⟩
      repeat walk_at "st"
      exact ⟨some (.int m), by rw [show prodO (ms.take (i + 1)) = prodO (ms.take i) * (if m > 0 then m else 0) by unfold prodO; rw [List.take_add_one, hm, List.foldl_append]; rfl], rfl⟩
    · rintro σ' H' ⟨o2, rfl, rfl⟩
      rw [List.length_map, List.take_length]
      repeat walk_at "st"
      exact k
theorem d_row_count (T : Txt K mg) (F : FD K mg "row_count" s_row_count) (c_need_letters : Dn P w K mg base 3 "need_letters" s_need_letters ["value"] (spNeedL)) (c_need_lengths : Dn P w K mg base 3 "need_lengths" s_need_lengths ["lengths"] (spNeedLens K)) (c_product_of : Dn P w K mg base 1 "product_of" s_product_of ["numbers"] (spProduct)) (c_choices_for : Dn P w K mg base 1 "choices_for" s_choices_for ["letters", "lengths"] (spChoices K)) : Dn P w K mg base 4 "row_count" s_row_count ["letters", "lengths"] (spRowCount K) := by
  refine dn_of F (fun _ _ _ _ _ _ us hl => match us, hl with | [_, _], _ => rfl) sc_row_count (fun vs H Q E h => ?_) (fun fa cdv A outer s H vs Q E hr h => ?_)
  · obtain ⟨q, x, ns, rfl, _⟩ := h
    rfl
  · obtain ⟨q, x, ns, rfl, hx, ok, q1, q2, k⟩ := h
    refine ⟨_, PSs.nox (pss_cons (ps_expr (pe_d c_need_letters hr (by decide) rfl (pa_cons (pv 0) pa_nil)))
 (pss_cons (ps_expr (pe_d c_need_lengths hr (by decide) rfl (pa_cons (pv 1) pa_nil)))
 (pss_one (ps_ret (pe_d c_product_of hr (by decide) rfl (pa_cons (pe_d c_choices_for hr (by decide) rfl (pa_cons (pv 0) (pa_cons (pv 1) pa_nil))) pa_nil)))))), ?_⟩
    refine w_start (σ := [some (.int q), some x]) rfl ?_
    repeat walk_at "st"
    refine ⟨q, rfl, q1, q2, ?_⟩
    repeat walk_at "st"
    refine ⟨x, ns, rfl, hx, ok, fun H1 e1 => ?_⟩
    repeat walk_at "st"
    refine ⟨q, x, ns, rfl, hx.same e1, ok, q1, q2, fun a H2 e2 a0 ha => ?_⟩
    repeat walk_at "st"
    refine ⟨a, chs q ns, rfl, ha, chs_bound ok q1 q2, ?_⟩
    exact k H2 (e1.trans e2)
end

/-! ### lengths_of -/
set_option hygiene false in
local macro_rules | `(tactic| walk_at "st") => `(tactic| first
  | ((with_reducible refine' w_aug ?h ?_); (case h => exact rfl))
  | (with_reducible first | refine w_bm ?_ | refine w_fldAug ?_ | refine w_seqU ?_ | refine w_enumL ?_)
  | ((with_reducible refine' w_tyL ?h ?_); (case h => walk_at "hp"))
  | ((with_reducible refine' w_enumLAt ?h ?_); (case h => walk_at "hp")))

set_option hygiene false in
local macro_rules | `(tactic| walk_at "st") => `(tactic| (with_reducible first | refine w_inst ?_ | refine w_instN ?_ | refine w_instAt ?_))
theorem lc_tupP {K : PySem.W.Frag} {σ : L2.St} {H : Hp} {Q : VK} {ts te : TE} {k : Nat} {vs : List Nat} {xs : List V} (f : V → V) (Po : Addr → Hp → Prop) (hts : ∀ R : VK, (∀ t H1, Po t H1 → R (.ref t) H1) → ts σ H R) (hp : ∀ t H1, Po t H1 → SqT K H1 t xs) (hl : xs.length ≤ sizeLine)
    (hel : ∀ y ∈ xs, ∀ H', ∀ R : VK, (∀ H'', Same H' H'' → R (f y) H'') → te ((wipe σ vs).set k (some y)) H' R)
    (q : ∀ t H1 D H', Po t H1 → H1 D = none → Same H1 H' → H' D = some (.lst (xs.map f)) → Q (.ref D) H') (hw : ∀ v, wipe ((wipe σ vs).set k (some v)) vs = wipe σ vs := by intro _; rfl) :
    tLc (iTup K ts) (gName k) tYes te vs σ H Q := by
  refine w_lc (hts _ fun t H1 h => ⟨t, rfl, ⟨xs, hp t H1 h⟩, lcI_map f (pureIt_tup (hp t H1 h)) hl (fun y hy H' _ R hR => hel y hy H' R hR) (fun D H' => q t H1 D H' h) hw⟩)
theorem row_le {S : Sg} {l : Wd} {w : Wd} (h : w ∈ rowOf S l) : w.length ≤ l.length := by
  have e := row_join S l
  rw [← e]
  have := (List.sublist_flatten_of_mem h).length_le
  exact this
section
variable {P : Program} {w : World} {K : PySem.W.Frag} {mg : Str → Option Value} {base : Heap}
theorem d_lengths_of (T : Txt K mg) (F : FD K mg "lengths_of" s_lengths_of) (c_need_letters : Dn P w K mg base 3 "need_letters" s_need_letters ["value"] (spNeedL)) (c_need_text : Dn P w K mg base 1 "need_text" s_need_text ["value", "letters"] (spNeedT)) (c_row_by : Dn P w K mg base 12 "row_by" s_row_by ["setting", "text"] (spRowBy K)) (c_set_init1 : ∀ h : Bool, Fr P w K mg base 5 (He.ma K (cSet K h) "__init__") ["self", "letters", "limit"] [.non] (spSetInit K h)) : Dn P w K mg base 14 "lengths_of" s_lengths_of ["letters", "text"] (spLengthsOf K) := by
  refine dn_of F (fun _ _ _ _ _ _ us hl => match us, hl with | [_, _], _ => rfl) sc_lengths_of (fun vs H Q E h => ?_) (fun fa cdv A outer s H vs Q E hr h => ?_)
  · obtain ⟨q, l, rfl, _⟩ := h
    rfl
  · obtain ⟨q, l, rfl, q1, q2, hl, habc, k⟩ := h
    have sz := sizeLine_eq
    refine ⟨_, PSs.nox (pss_cons (ps_expr (pe_d c_need_letters hr (by decide) rfl (pa_cons (pv 0) pa_nil)))
 (pss_cons (ps_expr (pe_d c_need_text hr (by decide) rfl (pa_cons (pv 1) (pa_cons (pv 0) pa_nil))))
 (pss_one (ps_ret (pe_callTy cl_tupOf (by rfl) T.n_tuple (by decide +kernel) (pa_cons (pe_lc (own := [("word", 2)]) (tt := tYes) (g := gName 2) rfl sc_lengths_of.nd (pi_tup (pe_d c_row_by hr (by decide) rfl (pa_cons (pe_mk (c_set_init1 false) (T.mk_set false) T.gc_Told hr (by decide) rfl (pa_cons (pv 0) pa_nil)) (pa_cons (pv 1) pa_nil)))) (blkOk_by (N := ["letters", "text", "word"]) (sc := defScope s_lengths_of) (by decide +kernel)) (fun _ _ _ _ _ => (pg_name (i := 2) sc_lengths_of.nd rfl (Or.inl rfl))) (fun _ _ _ _ _ => pts_nil) (fun _ _ _ _ _ => (pe_callB cl_lenS (by rfl) T.n_len (by decide +kernel) (pa_cons (pv 2) pa_nil)))) pa_nil)))))), ?_⟩
    refine w_start (σ := [some (.int q), some (.str (SX.S l)), none]) rfl ?_
    repeat walk_at "st"
    refine ⟨q, rfl, by omega, by omega, ?_⟩
    repeat walk_at "st"
    refine ⟨l, q, rfl, by omega, by rw [Int.toNat_natCast]; exact habc, hl, fun H1 e1 => ?_⟩
    repeat walk_at "st"
    have rl : ((rowOf ⟨false, q, .free, 0⟩ l).map strW).length ≤ sizeLine := by
      unfold rowOf
      rw [List.length_map, List.length_map]
      have := steps_len ⟨false, q, .free, 0⟩ l.length ⟨firstW ⟨false, q, .free, 0⟩, 0⟩ l
      unfold stepsOf
      omega
    refine lc_tupP (xs := (rowOf ⟨false, q, .free, 0⟩ l).map strW) (fun v => match v with | .str s => .int s.length | v => v) (fun t H3 => Same H H3 ∧ H3 t = some (.tup ((rowOf ⟨false, q, .free, 0⟩ l).map strW))) (fun R hR => ?_) (fun t H3 h => SqT.of h.2) rl (fun y hy H' R hR => ?_) fun t H3 D H4 h3 hD e5 hD4 => ?_
    · repeat walk_at "st"
      refine fun x dx hx hdx ne => ⟨x, dx, q, .non, .free, 0, rfl, by omega, by omega, upd_same, Or.inl ⟨rfl, rfl, rfl⟩, fun H2 l2 e2 hx2 hl2 => ?_⟩
      refine ⟨rfl, ?_⟩
      have e3 : Same H1 H2 := fun b o hb => e2 b o (ne_of_none hb hx) (same_two hx hdx b o hb)
      repeat walk_at "st"
      refine ⟨x, ⟨false, q, .free, 0⟩, l, rfl, ⟨dx, l2, hx2, hl2, q1, q2⟩, by omega, habc, fun t H3 e4 h4 ht => ?_⟩
      exact hR t H3 ⟨(e1.trans e3).trans e4, ht⟩
    · obtain ⟨wd, hw, rfl⟩ := List.mem_map.mp hy
      have wl : wd.length ≤ 5000 := Nat.le_trans (row_le hw) hl
      simp only [strW, wipe, List.map, List.set]
      repeat walk_at "st"
      refine w_lenS (z := SX.S wd) (by rw [sx_len]; omega) ?_
      exact hR H' (Same.refl _)
    · repeat walk_at "st"
      refine w_tupOf hD4 fun p hp => ?_
      repeat walk_at "st"
      have e6 : Same H H4 := h3.1.trans e5
      refine k p _ (same_new (same_free e6 hp) e6) (same_free e6 hp) ?_
      rw [upd_same, List.map_map]
      congr 2
end

/-! ### the law's own functions -/
theorem pick_ints {ns : List Int} {v : V} (h : v ∈ ns.map V.int) : ∃ i ∈ ns, v = .int i := by
  obtain ⟨i, hi, rfl⟩ := List.mem_map.mp h
  exact ⟨i, hi, rfl⟩
theorem log2_int {m : Int} (h0 : 0 ≤ m) (h : m ≤ 1000000) : m.natAbs.log2 < 9000 := PySem.Flt.log2_lt_of (by decide) (Nat.lt_of_le_of_lt (show m.natAbs ≤ 1000000 by omega) (by decide +kernel))
theorem joinL_nil : ∀ cs : List Nat, TL.joinL [] (cs.map fun c => [c]) = cs
  | [] => rfl
  | [c] => rfl
  | c :: d :: cs => by
    have ih := joinL_nil (d :: cs)
    show [c] ++ [] ++ TL.joinL [] ((d :: cs).map fun c => [c]) = c :: d :: cs
    rw [ih]
    rfl
theorem join_signs (cs : List Nat) : Txt.join (SX.S []) (cs.map fun c => (⟨#[c]⟩ : Str)) = SX.S cs := by
  have e : (cs.map fun c => (⟨#[c]⟩ : Str)) = (cs.map fun c => [c]).map SX.S := by
    rw [List.map_map]
    rfl
  rw [e, SX.join_S, joinL_nil]
theorem sum_ones (cs : List Nat) : ((cs.map fun c => (⟨#[c]⟩ : Str)).map (·.length)).sum = cs.length := by
  induction cs with
  | nil => rfl
  | cons c cs ih =>
    rw [List.map_cons, List.map_cons, List.sum_cons, ih, List.length_cons]
    show 1 + cs.length = cs.length + 1
    omega
theorem lc_lstP {K : PySem.W.Frag} {σ : L2.St} {H : Hp} {Q : VK} {ts te : TE} {k : Nat} {vs : List Nat} {xs : List V} (f : V → V) (Po : Addr → Hp → Prop) (hts : ∀ R : VK, (∀ t H1, Po t H1 → R (.ref t) H1) → ts σ H R) (hp : ∀ t H1, Po t H1 → SqL K H1 t xs) (hl : xs.length ≤ sizeLine)
    (hel : ∀ y ∈ xs, ∀ H', ∀ R : VK, (∀ H'', Same H' H'' → R (f y) H'') → te ((wipe σ vs).set k (some y)) H' R)
    (q : ∀ t H1 D H', Po t H1 → H1 D = none → Same H1 H' → H' D = some (.lst (xs.map f)) → Q (.ref D) H') (hw : ∀ v, wipe ((wipe σ vs).set k (some v)) vs = wipe σ vs := by intro _; rfl) :
    tLc (iList K ts) (gName k) tYes te vs σ H Q := by
  refine w_lc (hts _ fun t H1 h => ⟨t, rfl, ⟨xs, hp t H1 h⟩, lcI_map f (pureIt_list (hp t H1 h)) hl (fun y hy H' _ R hR => hel y hy H' R hR) (fun D H' => q t H1 D H' h) hw⟩)
theorem w_ixSq {K : PySem.W.Frag} {H : Hp} {Q : VK} {x v : V} {xs : List V} {i : Int} (h : Seq2 H x xs) (ha : atI xs i = some v) (q : Q v H) : rIx K x (.int i) H Q := by
  obtain ⟨a, rfl, h | h⟩ := h
  · exact .inl ⟨a, xs, i, v, rfl, rfl, SqL.of h, ha, q⟩
  · exact .inr (.inl ⟨a, xs, i, v, rfl, rfl, SqT.of h, ha, q⟩)
theorem w_listSl {K : PySem.W.Frag} {σ : L2.St} {H : Hp} {Q : VK} {x : V} {xs : List V} {te : TE} {tl th : TO} {lo hi : Option Int} (h : Seq2 H x xs)
    (h1 : ∀ R : V → Option Int → Option Int → Hp → Prop, R x lo hi H → te σ H fun x H1 => tl σ H1 fun l H2 => th σ H2 fun u H3 => R x l u H3)
    (q : ∀ D H', H D = none → Same H H' → H' D = some (.lst (cutV xs lo hi)) → Q (.ref D) H') :
    tCB (rListOf K) (tCons (tTwo (tSl (rSlL K) te tl th) (tSl (rSlA K) te tl th)) tNil) σ H Q := by
  obtain ⟨a, rfl, h | h⟩ := h
  · refine .inl (h1 (fun x lo hi H => rSlL K x lo hi H _) (w_slL (SqL.of h) fun p hp => ⟨p, _, rfl, .inl (SqL.of upd_same), fun l hl => ?_⟩))
    have e := same_new (o := .lst (cutV xs lo hi)) hp (Same.refl H)
    exact q l _ (same_free e hl) (same_new (same_free e hl) e) upd_same
  · refine .inr (h1 (fun x lo hi H => rSlA K x lo hi H _) ⟨a, xs, rfl, SqT.of h, fun z => ⟨a, xs, rfl, .inr (SqT.of h), fun l hl => ?_⟩, fun z p hp => ⟨p, _, rfl, .inr (SqT.of upd_same), fun l hl => ?_⟩⟩)
    · have e : cutV xs lo hi = xs := by
        unfold cutV
        rw [z.1, z.2, List.drop_zero, Nat.sub_zero, List.take_length]
      rw [e] at q
      exact q l _ hl (same_new hl (Same.refl H)) upd_same
    · have e := same_new (o := .tup (cutV xs lo hi)) hp (Same.refl H)
      exact q l _ (same_free e hl) (same_new (same_free e hl) e) upd_same
def tS (q : Nat) : Sg := ⟨false, q, .free, 0⟩
def spLText : Sp := fun vs H Q _ => ∃ p c q most n, vs = [.ref p, .int q, .int most] ∧ 2 ≤ q ∧ q ≤ 26 ∧ 0 ≤ most ∧ most ≤ 50 ∧ PenB H p c n ∧ n ≤ 80000 ∧
  ∀ l H', (∀ x ∈ l, x ∈ abcL.take q.toNat) → (l.length : Int) ≤ most → Keep p H H' → PenB H' p c (n + most + 2) → Q (.str (SX.S l)) H'
def spLRow : Sp := fun vs H Q _ => ∃ (q : Nat) (l : List Nat), vs = [.str (SX.S l)] ∧ l.length ≤ 5000 ∧ ∀ a H', Same H H' → H a = none → H' a = some (.lst ((rowOf (tS q) l).map strW)) → Q (.ref a) H'
def spLLengths : Sp := fun vs H Q _ => ∃ (q : Nat) (l : List Nat), vs = [.str (SX.S l)] ∧ l.length ≤ 5000 ∧ ∀ t H', Same H H' → H t = none → H' t = some (.tup ((rowOf (tS q) l).map fun w => V.int (w.length : Nat))) → Q (.ref t) H'
def spLChoices (K : PySem.W.Frag) : Sp := fun vs H Q _ => ∃ q x ns, vs = [.int q, x] ∧ Seq2 H x (ns.map V.int) ∧ IntsOk ns ∧ 2 ≤ q ∧ q ≤ 26 ∧ ∀ a H', Same H H' → H a = none → H' a = some (.lst ((chs q ns).map V.int)) → Q (.ref a) H'
def spLProduct : Sp := fun vs H Q _ => ∃ a ms, vs = [.ref a] ∧ H a = some (.lst (ms.map V.int)) ∧ (∀ m ∈ ms, -1000000 ≤ m ∧ m ≤ 1000000) ∧ Q (.int (prodO ms)) H
theorem take_drop1 (n : Nat) (r : Wd) : r.take n ++ (r.drop n).take 1 = r.take (n + 1) := List.take_add.symm
def addW (L : List Wd) (w : Wd) : List Wd := if w ∈ L then L else L ++ [w]
theorem step_told (q : Nat) (L : List Wd) (g : Int) (r : Wd) (h0 : ([] : Wd) ∈ L) : rowW (tS q) (step1 (tS q) ⟨L, g⟩ r).1 = r.take (lgst (tS q) L r + 1) ∧ (step1 (tS q) ⟨L, g⟩ r).2.1.ws = addW L (r.take (lgst (tS q) L r + 1)) ∧ (step1 (tS q) ⟨L, g⟩ r).2.2 = r.drop (lgst (tS q) L r + 1) := by
  have hin : r.take (lgst (tS q) L r) ∈ L := lsz_in L r _ _ (by show r.take 0 ∈ L; rw [List.take_zero]; exact h0)
  obtain ⟨n, en⟩ : ∃ n, n = lgst (tS q) L r := ⟨_, rfl⟩
  unfold step1
  simp only
  rw [← en] at hin ⊢
  refine ⟨take_drop1 n r, ?_, rfl⟩
  rw [take_drop1]
  by_cases hl : (r.drop n).take 1 = []
  · have e := take_drop1 n r
    rw [hl, List.append_nil] at e
    rw [decide_eq_true hl]
    simp only [Bool.not_true, Bool.false_and, Bool.false_eq_true, if_false]
    unfold addW
    rw [← e, if_pos hin]
  · rw [decide_eq_false hl]
    by_cases hm : r.take (n + 1) ∈ L
    · have e : wgrow (tS q) ⟨L, g⟩ (r.take (n + 1)) = false := by unfold wgrow; rw [decide_eq_true hm]; rfl
      rw [e]
      unfold addW
      rw [if_pos hm]
      rfl
    · have e : wgrow (tS q) ⟨L, g⟩ (r.take (n + 1)) = true := by unfold wgrow; rw [decide_eq_false hm]; rfl
      rw [e]
      unfold addW
      rw [if_neg hm]
      rfl
theorem drop_take (r : Wd) (j : Nat) : r.drop (r.take j).length = r.drop j := by
  rw [List.length_take]
  rcases Nat.le_total j r.length with h | h
  · rw [Nat.min_eq_left h]
  · rw [Nat.min_eq_right h, List.drop_length, List.drop_eq_nil_of_le h]
theorem putK_le (kvs : List (Key × V)) (k : Key) (y : V) : (putK kvs k y).length ≤ kvs.length + 1 := by
  unfold putK
  split
  · rw [List.length_map]
    omega
  · rw [List.length_append]
    exact Nat.le_refl _
theorem put_in {kvs : List (Key × V)} {L : List Wd} (h : ∀ w, (valV kvs (Sum.inr (SX.S w))).isSome = decide (w ∈ L)) (w0 : Wd) (y : V) : ∀ w, (valV (putK kvs (Sum.inr (SX.S w0)) y) (Sum.inr (SX.S w))).isSome = decide (w ∈ addW L w0) := by
  intro w
  rw [valV_put]
  by_cases e : w = w0
  · subst e
    rw [if_pos rfl]
    have : w ∈ addW L w := by
      unfold addW
      split
      · assumption
      · simp
    rw [decide_eq_true this]
    rfl
  · rw [if_neg fun z => e (SX.S_inj (Sum.inr.inj z)), h w]
    have : (w ∈ addW L w0) ↔ w ∈ L := by
      unfold addW
      split
      · exact Iff.rfl
      · simp [e]
    exact decide_eq_decide.mpr this.symm
/-- the row, at a place of the text -/
def RowI (H : Hp) (q : Nat) (l : Wd) (dd fo : Addr) (at_ : Nat) (H' : Hp) : Prop := ∃ (L : List Wd) (kvs : List (Key × V)) (done : List Wd) (f : Nat) (st : Shf), at_ ≤ l.length ∧ Same H H' ∧ H' dd = some (.dK kvs) ∧ kvs.length ≤ done.length + 1 ∧
  (∀ w, (valV kvs (Sum.inr (SX.S w))).isSome = decide (w ∈ L)) ∧ H' fo = some (.lst (done.map strW)) ∧ done.length ≤ at_ ∧ (l.drop at_).length ≤ f ∧ ([] : Wd) ∈ L ∧ st.ws = L ∧ done ++ (stepsF (tS q) f st (l.drop at_)).map (rowW (tS q)) = rowOf (tS q) l
set_option hygiene false in
local macro_rules | `(tactic| walk_at "st") => `(tactic| first
  | ((with_reducible refine' w_aug ?h ?_); (case h => exact rfl))
  | (with_reducible first | refine w_bm ?_ | refine w_fldAug ?_ | refine w_seqU ?_ | refine w_enumL ?_)
  | ((with_reducible refine' w_tyL ?h ?_); (case h => walk_at "hp"))
  | ((with_reducible refine' w_enumLAt ?h ?_); (case h => walk_at "hp")))

set_option hygiene false in
local macro_rules | `(tactic| walk_at "st") => `(tactic| (with_reducible first | refine w_seqP3 ?_ | refine w_par3 ?_ | refine w_three ?_ | refine w_pc ?_ | refine w_pn ?_ | refine w_dget2 ?_ | refine w_bm ?_))
section
variable {P : Program} {w : World} {K : PySem.W.Frag} {mg : Str → Option Value} {base : Heap}
theorem d_law_text (T : Txt K mg) (F : FD K mg "_law_text" s_law_text) (c_law_pick : Dn P w K mg base 2 "_law_pick" s_law_pick ["pen", "some"] (spPick K)) (c_law_draw : Dn P w K mg base 1 "_law_draw" s_law_draw ["pen", "many"] (spDraw)) : Dn P w K mg base 3 "_law_text" s_law_text ["pen", "letters", "most"] (spLText) := by
  refine dn_of F (fun _ _ _ _ _ _ us hl => match us, hl with | [_, _, _], _ => rfl) sc_law_text (fun vs H Q E h => ?_) (fun fa cdv A outer s H vs Q E hr h => ?_)
  · obtain ⟨p, c, q, most, n, rfl, _⟩ := h
    rfl
  · obtain ⟨p, c, q, most, n, rfl, q1, q2, m0, m1, hp, hn, k⟩ := h
    have sz := sizeLine_eq
    refine ⟨_, PSs.nox (pss_cons (ps_set (i := 3) sc_law_text.nd rfl (Or.inr rfl) (pe_d c_law_pick hr (by decide) rfl (pa_cons (pv 0) (pa_cons (pe_lst (pa_cons pe_int (pa_cons pe_int (pa_cons pe_int (pa_cons (pv 1) pa_nil))))) pa_nil))))
 (pss_one (ps_ret (pe_join pe_str (pe_lc (own := [("turn", 4)]) (tt := tYes) (g := gName 4) rfl sc_law_text.nd (pi_range1 rfl T.n_range (pa_cons (pe_d c_law_draw hr (by decide) rfl (pa_cons (pv 0) (pa_cons (pe_op op_add (pv 2) pe_int) pa_nil))) pa_nil)) (blkOk_by (N := ["pen", "letters", "most", "few", "turn"]) (sc := defScope s_law_text) (by decide +kernel)) (fun _ _ _ _ _ => (pg_name (i := 4) sc_law_text.nd rfl (Or.inl rfl))) (fun _ _ _ _ _ => pts_nil) (fun _ _ _ _ _ => (pe_ix ix_str pe_str (pe_d c_law_draw hr (by decide) rfl (pa_cons (pv 0) (pa_cons (pv 3) pa_nil))) (fun _ _ => rfl)))))))), ?_⟩
    refine w_start (σ := [some (.ref p), some (.int q), some (.int most), none, none]) rfl ?_
    repeat walk_at "st"
    refine ⟨by walk_at "len", fun u1 hu1 => ?_⟩
    repeat walk_at "st"
    refine pick_new hu1 hp (by omega) (by walk_at "len") (by show 4 ≤ 1000000; decide) fun v H1 hv e1 hp1 => ?_
    obtain ⟨few, hm, rfl⟩ := pick_ints (ns := [1, 2, 2, q]) hv
    have hm2 : 1 ≤ few ∧ few ≤ q := by
      simp only [List.mem_cons, List.not_mem_nil, or_false] at hm
      omega
    clear hm hv
    repeat walk_at "st"
    refine ⟨⟨_, rfl⟩, ?_⟩
    refine w_lc ?_
    repeat walk_at "st"
    refine ⟨p, c, most + 1, n + 1, rfl, by omega, log2_int (by omega) (by omega), hp1, by omega, fun many H2 m2 m3 e2 hp2 => ?_⟩
    repeat walk_at "st"
    intro D hD
    have hDp : D ≠ p := hp2.free hD
    have hDc : D ≠ c := hp2.freeC hD
    refine L2.lc_range (fun i H' => ∃ cs : List Nat, cs.length = i ∧ (∀ c ∈ cs, c ∈ abcL.take q.toNat) ∧ H' D = some (.lst (cs.map fun c => .str ⟨#[c]⟩)) ∧ Keep p H2 H' ∧ PenB H' p c (n + 1 + 1 + i)) ?_ ?_ ?_
    · exact ⟨[], rfl, fun c hc => (nomatch hc), upd_same, (Keep.refl p H2).alloc hp2 hD, by simpa using hp2.new hD⟩
    · rintro i H5 hi ⟨cs, hl, hcs, h5, e9, hp9⟩
      simp only [wipe, List.map, List.set]
      repeat walk_at "st"
      refine ⟨rfl, ?_⟩
      simp only [tYes, if_true]
      repeat walk_at "st"
      refine ⟨p, c, few, _, rfl, by omega, log2_int (by omega) (by omega), hp9, by omega, fun b H6 b0 b1 e10 hp10 => ?_⟩
      repeat walk_at "st"
      have bl : b.toNat < 26 := by omega
      have al : abcL.length = 26 := by decide
      have bm : abcL[b.toNat]'(by rw [al]; exact bl) ∈ abcL.take q.toNat := List.mem_take_iff_getElem.mpr ⟨b.toNat, by rw [al]; omega, rfl⟩
      refine ⟨_, b, abcL[b.toNat]'(by rw [al]; exact bl), rfl, rfl, by rw [abc_S, sx_len, al, sz]; decide, ?_, ?_⟩
      · rw [abc_S, show (SX.S abcL).cps.toList = abcL by simp [SX.S]]
        have ha := atI_nat (xs := abcL) (j := b.toNat) (List.getElem?_eq_getElem (by rw [al]; exact bl))
        rw [Int.toNat_of_nonneg b0] at ha
        exact ha
      · refine ⟨cs.map fun c => .str ⟨#[c]⟩, e10 _ _ hDp h5, by rw [List.length_map]; omega, cs ++ [abcL[b.toNat]'(by rw [al]; exact bl)], by rw [List.length_append, hl]; rfl, fun x hx => ?_, ?_, (e9.trans e10).new hD, ?_⟩
        · rcases List.mem_append.mp hx with hx | hx
          · exact hcs x hx
          · rw [List.mem_singleton.mp hx]
            exact bm
        · rw [upd_same, List.map_append]
          rfl
        · exact (hp10.upd' hDp hDc).mono (by omega)
    · rintro H5 ⟨cs, hl, hcs, h5, e9, hp9⟩
      refine ⟨SX.S [], D, cs.map fun c => (⟨#[c]⟩ : Str), rfl, rfl, .inl (SqL.of (by rw [h5, List.map_map]; rfl)), ?_, ?_⟩
      · rw [sum_ones, sx_len]
        simp
        omega
      rw [join_signs]
      exact k cs H5 hcs (by omega) ((e1.trans e2).trans e9) (hp9.mono (by omega))
theorem d_law_row (T : Txt K mg) (F : FD K mg "_law_row" s_law_row) : Dn P w K mg base 1 "_law_row" s_law_row ["text"] (spLRow) := by
  refine dn_of F (fun _ _ _ _ _ _ us hl => match us, hl with | [_], _ => rfl) sc_law_row (fun vs H Q E h => ?_) (fun fa cdv A outer s H vs Q E hr h => ?_)
  · obtain ⟨q, l, rfl, _⟩ := h
    rfl
  · obtain ⟨q, l, rfl, hl, k⟩ := h
    have sz := sizeLine_eq
    refine ⟨_, PSs.nox (pss_cons (ps_par3 (i := 1) (j := 2) (l := 3) (by rfl) sc_law_row.nd rfl rfl rfl (by decide) (by decide) (by decide) rfl rfl rfl (pa_cons (pe_disp (pps_cons pe_str pe_bl pps_nil) (by rfl) (by rfl) (fun z => by cases z) (by decide)) (pa_cons (pe_lst pa_nil) (pa_cons pe_int pa_nil))) (by rfl))
 (pss_cons (ps_while PassesOwn.never (pt_cmpR op_lt (pv 3) (pe_callB cl_lenS (by rfl) T.n_len (by decide +kernel) (pa_cons (pv 0) pa_nil)) (nomark _))
 (pss_cons (ps_set (i := 4) sc_law_row.nd rfl (Or.inl rfl) pe_int)
 (pss_cons (ps_while PassesOwn.never (PW.pt (pw_and (pt_cmpR op_lt (pe_op op_add (pv 3) (pv 4)) (pe_callB cl_lenS (by rfl) T.n_len (by decide +kernel) (pa_cons (pv 0) pa_nil)) (nomark _)) (pw_and1 (pt_cmp (pc_din (hu_of hr) (pe_slice sl_str (pv 0) (po_some (pv 3)) (po_some (pe_op op_add (pe_op op_add (pv 3) (pv 4)) pe_int))) (pv 1))))))
 (pss_one (ps_set (i := 4) sc_law_row.nd rfl (Or.inl rfl) (pe_op op_add (pv 4) pe_int))))
 (pss_cons (ps_set (i := 5) sc_law_row.nd rfl (Or.inl rfl) (pe_slice sl_str (pv 0) (po_some (pv 3)) (po_some (pe_op op_add (pe_op op_add (pv 3) (pv 4)) pe_int))))
 (pss_cons (ps_dput (hu_of hr) (pv 1) (pv 5) pe_bl rfl)
 (pss_cons (ps_expr (pe_bm PySem.F.plainAttrs_list PySem.F.slot_list_append PySem.F.type_list_append mt_append (pv 2) (pa_cons (pv 5) pa_nil)))
 (pss_one (ps_set (i := 3) sc_law_row.nd rfl (Or.inl rfl) (pe_op op_add (pv 3) (pe_callB cl_lenS (by rfl) T.n_len (by decide +kernel) (pa_cons (pv 5) pa_nil)))))))))))
 (pss_one (ps_ret (pv 2))))), ?_⟩
    refine w_start (σ := [some (.str (SX.S l)), none, none, none, none, none]) rfl ?_
    repeat walk_at "st"
    refine w_disp fun dd hdd => ?_
    repeat walk_at "st"
    refine ⟨upd_same, [(Sum.inr (SX.S []), .bl true)], rfl, by decide, ?_⟩
    rw [upd_upd', show mergeK [] [((Sum.inr (SX.S []) : Key), V.bl true)] = [(Sum.inr (SX.S []), .bl true)] from rfl]
    repeat walk_at "st"
    refine ⟨by walk_at "len", fun fo hfo => ?_⟩
    have nfd : dd ≠ fo := ne_of_none upd_same hfo
    have fo0 : H fo = none := by rw [upd_ne nfd.symm] at hfo; exact hfo
    obtain ⟨H1, eH⟩ : ∃ H1, H1 = upd (upd H dd (.dK [(Sum.inr (SX.S []), .bl true)])) fo (.lst []) := ⟨_, rfl⟩
    have s1 : Same H H1 := by
      rw [eH]
      exact same_new fo0 (same_new hdd (Same.refl H)) |> fun e => by first | exact e | exact same_two hdd hfo
    have hd1 : H1 dd = some (.dK [(Sum.inr (SX.S []), .bl true)]) := by rw [eH, upd_ne nfd]; exact upd_same
    have hf1 : H1 fo = some (.lst []) := by rw [eH]; exact upd_same
    rw [← eH]
    clear eH
    repeat walk_at "st"
    with_reducible refine w_seq ?_
    have ll : (SX.S l).length ≤ sizeLine := by rw [sx_len]; omega
    refine ⟨fun m σ' H' => ∃ (at_ : Nat) (o4 o5 : Option V), σ' = [some (.str (SX.S l)), some (.ref dd), some (.ref fo), some (.int (at_ : Nat)), o4, o5] ∧ m = l.length - at_ ∧ RowI H q l dd fo at_ H',
      ⟨_, 0, none, none, rfl, rfl, [[]], _, [], l.length, ⟨[[]], 0⟩, Nat.zero_le _, s1, hd1, by decide, fun w => ?_, hf1, Nat.le_refl _, by rw [List.drop_zero]; exact Nat.le_refl _, List.mem_singleton.mpr rfl, rfl, by rw [List.drop_zero]; rfl⟩, ?_⟩
    · by_cases e : w = []
      · subst e
        rfl
      · rw [valV_neg fun z => e (SX.S_inj (Sum.inr.inj z)).symm]
        simp [valV_nil, e]
    rintro m σ' H2 ⟨at_, o4, o5, rfl, rfl, L, kvs, done, f, st, hat, e2, hd2, kl, kin, hf2, dl, hf, h0, hst, hrow⟩
    repeat walk_at "st"
    refine w_ite (fun h1 => ?_) (fun h1 => ?_)
    · rw [sx_len] at h1
      refine ⟨_, fun σ' H' h => h, ?_⟩
      repeat walk_at "st"
      obtain ⟨r, hr⟩ : ∃ r, r = l.drop at_ := ⟨_, rfl⟩
      have hrl : r.length = l.length - at_ := by rw [hr, List.length_drop]
      have hrn : r ≠ [] := fun z => by rw [z, List.length_nil] at hrl; omega
      have ec : ∀ j : Nat, cutS (SX.S l) (some ((at_ : Nat) : Int)) (some (((at_ : Nat) : Int) + (j : Nat))) = SX.S (r.take j) := fun j => by
        rw [cutS_mid (by omega) (by omega), hr, show ((at_ : Nat) : Int).toNat = at_ by omega, show (((at_ : Nat) : Int) + (j : Nat) - (at_ : Nat)).toNat = j by omega]
      have ec1 : ∀ n : Nat, cutS (SX.S l) (some ((at_ : Nat) : Int)) (some (((at_ : Nat) : Int) + (n : Nat) + 1)) = SX.S (r.take (n + 1)) := fun n => by
        rw [← ec (n + 1), show (((at_ : Nat) : Int) + (n : Nat) + 1) = ((at_ : Nat) : Int) + ((n + 1 : Nat) : Int) by omega]
      have edr : ∀ j : Nat, l.drop (at_ + j) = r.drop j := fun j => by rw [hr, List.drop_drop]
      rw [← hr] at hf hrow
      with_reducible refine w_join (fun σ' H' => σ' = [some (.str (SX.S l)), some (.ref dd), some (.ref fo), some (.int (at_ : Nat)), some (.int ((lgst (tS q) L r : Nat) : Int)), o5] ∧ H' = H2) (fun X hX => ?_) ?_
      · refine ⟨fun m σ' H3 => ∃ sz : Nat, σ' = [some (.str (SX.S l)), some (.ref dd), some (.ref fo), some (.int (at_ : Nat)), some (.int (sz : Nat)), o5] ∧ H3 = H2 ∧ sz ≤ r.length ∧ m = r.length - sz ∧ lgst (tS q) L r = lsz L r (r.length - sz) sz, ⟨_, 0, rfl, rfl, Nat.zero_le _, rfl, rfl⟩, ?_⟩
        rintro m σ' H3 ⟨n, rfl, rfl, hn, rfl, hlg⟩
        have kn := kin (r.take (n + 1))
        repeat walk_at "st"
        refine w_ite (fun h2 => ?_) (fun h2 => ?_)
        · rw [sx_len] at h2
          have lt : n < r.length := by omega
          rw [show r.length - n = (r.length - (n + 1)) + 1 by omega] at hlg
          unfold lsz at hlg
          repeat walk_at "st"
          rw [ec1]
          repeat walk_at "st"
          refine ⟨dd, _, rfl, DGet.k (k := Sum.inr (SX.S (r.take (n + 1)))) hd2, ?_⟩
          rw [kn]
          by_cases hm : r.take (n + 1) ∈ L
          · rw [if_pos ⟨lt, hm⟩] at hlg
            rw [decide_eq_true hm]
            repeat walk_at "st"
            refine ⟨fun σ' H' => σ' = [some (.str (SX.S l)), some (.ref dd), some (.ref fo), some (.int (at_ : Nat)), some (.int ((n + 1 : Nat) : Int)), o5] ∧ H' = H3, fun σ' H' ⟨e1, e2⟩ => ⟨r.length - (n + 1), by omega, n + 1, e1, e2, lt, rfl, hlg⟩, ?_⟩
            repeat walk_at "st"
            exact ⟨rfl, rfl⟩
          · rw [if_neg fun z => hm z.2] at hlg
            rw [decide_eq_false hm]
            repeat walk_at "st"
            exact hX _ _ ⟨by rw [hlg], rfl⟩
        · rw [sx_len] at h2
          repeat walk_at "st"
          refine hX _ _ ⟨?_, rfl⟩
          rw [hlg, show r.length - n = 0 by omega]
          rfl
      · rintro σ' H3 ⟨rfl, rfl⟩
        obtain ⟨L', rfl⟩ : ∃ L', L = L' := ⟨_, rfl⟩
        obtain ⟨wl, sg⟩ := st
        obtain rfl : wl = L := hst
        obtain ⟨t1, t2, t3⟩ := step_told q wl sg r h0
        obtain ⟨n, en⟩ : ∃ n, n = lgst (tS q) wl r := ⟨_, rfl⟩
        rw [← en] at t1 t2 t3 ⊢
        have w1 : (r.take (n + 1)).length ≤ r.length := by rw [List.length_take]; omega
        have w0 : 0 < (r.take (n + 1)).length := by rw [List.length_take]; have : 0 < r.length := List.length_pos_iff.mpr hrn; omega
        have wz : (SX.S (r.take (n + 1))).length ≤ sizeLine := by rw [sx_len]; omega
        have nfd2 : fo ≠ dd := fun z => by rw [z, hd2] at hf2; cases hf2
        repeat walk_at "st"
        rw [ec1]
        repeat walk_at "st"
        refine ⟨dd, _, rfl, DPut.k (k := Sum.inr (SX.S (r.take (n + 1)))) hd2 (by omega), ?_⟩
        repeat walk_at "st"
        refine w_append (xs := done.map strW) (by rw [upd_ne nfd2]; exact hf2) (by rw [List.length_map]; omega) ?_
        repeat walk_at "st"
        rw [sx_len]
        obtain ⟨f', rfl⟩ : ∃ f', f = f' + 1 := ⟨f - 1, by have : 0 < r.length := List.length_pos_iff.mpr hrn; omega⟩
        have e1 : stepsF (tS q) (f' + 1) ⟨wl, sg⟩ r = (step1 (tS q) ⟨wl, sg⟩ r).1 :: stepsF (tS q) f' (step1 (tS q) ⟨wl, sg⟩ r).2.1 (step1 (tS q) ⟨wl, sg⟩ r).2.2 := by
          show (if r = [] then [] else _) = _
          rw [if_neg hrn]
        rw [e1, List.map_cons, t1, t3] at hrow
        refine ⟨l.length - (at_ + (r.take (n + 1)).length), by omega, at_ + (r.take (n + 1)).length, _, _, rfl, rfl, addW wl (r.take (n + 1)), _, done ++ [r.take (n + 1)], f', (step1 (tS q) ⟨wl, sg⟩ r).2.1, by omega, ?_, by rw [upd_ne nfd2.symm]; exact upd_same, ?_, put_in kin _ _, by rw [upd_same, List.map_append]; rfl, by rw [List.length_append, List.length_singleton]; omega, ?_, ?_, t2, ?_⟩
        · intro b o hb
          rw [upd_ne (ne_of_none hb fo0), upd_ne (ne_of_none hb hdd)]
          exact e2 b o hb
        · have := putK_le kvs (Sum.inr (SX.S (r.take (n + 1)))) (.bl true)
          rw [List.length_append, List.length_singleton]
          omega
        · rw [List.length_drop]
          omega
        · unfold addW
          split
          · exact h0
          · exact List.mem_append_left _ h0
        · rw [edr, show r.drop (r.take (n + 1)).length = r.drop (n + 1) from drop_take r (n + 1), List.append_assoc]
          exact hrow
    · rw [sx_len] at h1
      repeat walk_at "st"
      obtain rfl : at_ = l.length := by omega
      rw [List.drop_length] at hrow
      have e0 : stepsF (tS q) f st [] = [] := by
        cases f <;> rfl
      rw [e0, List.map_nil, List.append_nil] at hrow
      rw [hrow] at hf2
      exact k fo H2 e2 fo0 hf2
theorem d_law_lengths (T : Txt K mg) (F : FD K mg "_law_lengths" s_law_lengths) (c_law_row : Dn P w K mg base 1 "_law_row" s_law_row ["text"] (spLRow)) : Dn P w K mg base 2 "_law_lengths" s_law_lengths ["text"] (spLLengths) := by
  refine dn_of F (fun _ _ _ _ _ _ us hl => match us, hl with | [_], _ => rfl) sc_law_lengths (fun vs H Q E h => ?_) (fun fa cdv A outer s H vs Q E hr h => ?_)
  · obtain ⟨q, l, rfl, _⟩ := h
    rfl
  · obtain ⟨q, l, rfl, hl, k⟩ := h
    have sz := sizeLine_eq
    refine ⟨_, PSs.nox (pss_one (ps_ret (pe_callTy cl_tupOf (by rfl) T.n_tuple (by decide +kernel) (pa_cons (pe_lc (own := [("word", 1)]) (tt := tYes) (g := gName 1) rfl sc_law_lengths.nd (pi_list (pe_d c_law_row hr (by decide) rfl (pa_cons (pv 0) pa_nil))) (blkOk_by (N := ["text", "word"]) (sc := defScope s_law_lengths) (by decide +kernel)) (fun _ _ _ _ _ => (pg_name (i := 1) sc_law_lengths.nd rfl (Or.inl rfl))) (fun _ _ _ _ _ => pts_nil) (fun _ _ _ _ _ => (pe_callB cl_lenS (by rfl) T.n_len (by decide +kernel) (pa_cons (pv 1) pa_nil)))) pa_nil)))), ?_⟩
    refine w_start (σ := [some (.str (SX.S l)), none]) rfl ?_
    repeat walk_at "st"
    have rl : ((rowOf (tS q) l).map strW).length ≤ sizeLine := by
      unfold rowOf
      rw [List.length_map, List.length_map]
      have := steps_len (tS q) l.length ⟨firstW (tS q), 0⟩ l
      unfold stepsOf
      omega
    refine lc_lstP (xs := (rowOf (tS q) l).map strW) (fun v => match v with | .str s => .int s.length | v => v) (fun t H3 => Same H H3 ∧ H3 t = some (.lst ((rowOf (tS q) l).map strW))) (fun R hR => ?_) (fun t H3 h => SqL.of h.2) rl (fun y hy H' R hR => ?_) fun t H3 D H4 h3 hD e5 hD4 => ?_
    · repeat walk_at "st"
      refine ⟨q, l, rfl, hl, fun a H1 e1 ha h1 => ?_⟩
      exact hR a H1 ⟨e1, h1⟩
    · obtain ⟨wd, hw, rfl⟩ := List.mem_map.mp hy
      have wl : wd.length ≤ 5000 := Nat.le_trans (row_le hw) hl
      simp only [strW, wipe, List.map, List.set]
      repeat walk_at "st"
      refine w_lenS (z := SX.S wd) (by rw [sx_len]; omega) ?_
      exact hR H' (Same.refl _)
    · repeat walk_at "st"
      refine w_tupOf hD4 fun p hp => ?_
      repeat walk_at "st"
      have e6 : Same H H4 := h3.1.trans e5
      refine k p _ (same_new (same_free e6 hp) e6) (same_free e6 hp) ?_
      rw [upd_same, List.map_map]
      congr 2
theorem d_law_choices (T : Txt K mg) (F : FD K mg "_law_choices" s_law_choices) : Dn P w K mg base 1 "_law_choices" s_law_choices ["letters", "lengths"] (spLChoices K) := by
  refine dn_of F (fun _ _ _ _ _ _ us hl => match us, hl with | [_, _], _ => rfl) sc_law_choices (fun vs H Q E h => ?_) (fun fa cdv A outer s H vs Q E hr h => ?_)
  · obtain ⟨q, x, ns, rfl, _⟩ := h
    rfl
  · obtain ⟨q, x, ns, rfl, hx, ok, q1, q2, k⟩ := h
    have sz := sizeLine_eq
    refine ⟨_, PSs.nox (pss_cons (ps_set (i := 2) sc_law_choices.nd rfl (Or.inl rfl) (pe_lst pa_nil))
 (pss_cons (ps_for PassesOwn.never rfl (pi_range1 rfl T.n_range (pa_cons (pe_callB cl_lenQ (by rfl) T.n_len (by decide +kernel) (pa_cons (pv 1) pa_nil)) pa_nil)) (pg_name (i := 3) sc_law_choices.nd rfl (Or.inl rfl))
 (pss_cons (ps_set (i := 4) sc_law_choices.nd rfl (Or.inl rfl) (pe_callTy cl_listOf (by rfl) T.n_list (by decide +kernel) (pa_cons (pe_two (pe_slice sl_list (pv 1) po_none (po_some (pv 3))) (pe_slice sl_tupA (pv 1) po_none (po_some (pv 3)))) pa_nil)))
 (pss_cons (ps_set (i := 5) sc_law_choices.nd rfl (Or.inl rfl) (pe_op op_mulA (pv 0) (pe_ifExp (pt_cmpR op_gt (pe_ix ix_seq (pv 1) (pv 3) (fun _ _ => rfl)) pe_int (nomark _)) (pe_bm PySem.F.plainAttrs_list PySem.F.slot_list_count PySem.F.type_list_count mt_lcount (pv 4) (pa_cons (pe_op op_sub (pe_ix ix_seq (pv 1) (pv 3) (fun _ _ => rfl)) pe_int) pa_nil)) pe_int)))
 (pss_one (ps_expr (pe_bm PySem.F.plainAttrs_list PySem.F.slot_list_append PySem.F.type_list_append mt_append (pv 2) (pa_cons (pe_ifExp (pt_cmpR op_eq (pv 3) (pe_op op_sub (pe_callB cl_lenQ (by rfl) T.n_len (by decide +kernel) (pa_cons (pv 1) pa_nil)) pe_int) (nomark _)) (pv 5) (pe_op op_sub (pv 5) (pe_bm PySem.F.plainAttrs_list PySem.F.slot_list_count PySem.F.type_list_count mt_lcount (pv 4) (pa_cons (pe_ix ix_seq (pv 1) (pv 3) (fun _ _ => rfl)) pa_nil)))) pa_nil)))))))
 (pss_one (ps_ret (pv 2))))), ?_⟩
    refine w_start (σ := [some (.int q), some x, none, none, none, none]) rfl ?_
    repeat walk_at "st"
    refine ⟨by walk_at "len", fun fo hfo => ?_⟩
    repeat walk_at "st"
    with_reducible refine w_seq ?_
    repeat walk_at "st"
    have s1 : Same H (upd H fo (.lst [])) := same_new hfo (Same.refl H)
    have hx1 := hx.same s1
    have ol := ok.2.2
    refine w_lenSq hx1 ?_
    rw [List.length_map]
    refine w_rng1 ⟨by omega, by omega⟩ ?_
    rw [Int.toNat_natCast]
    refine L2.for_range (fun i σ' H' => ∃ o3 o4 o5, σ' = [some (.int q), some x, some (.ref fo), o3, o4, o5] ∧ Same H H' ∧ H' fo = some (.lst (((List.range i).map (chAt q ns)).map V.int))) ⟨none, none, none, rfl, s1, upd_same⟩ ?_ ?_
    · rintro i σ' H2 hi ⟨o3, o4, o5, rfl, e2, hf2⟩
      obtain ⟨n, hn⟩ : ∃ n, ns[i]? = some n := ⟨_, List.getElem?_eq_getElem hi⟩
      have gn : ns.getD i 0 = n := by rw [List.getD_eq_getElem?_getD, hn]; rfl
      have nb := ok.1 n (List.mem_of_getElem? hn)
      have tl : (ns.take i).length = i := by rw [List.length_take]; omega
      have pl : (((List.range i).map (chAt q ns)).map V.int).length < sizeLine := by rw [List.length_map, List.length_map, List.length_range]; omega
      have ea : atI (ns.map V.int) ((i : Nat) : Int) = some (.int n) := atI_nat (by rw [List.getElem?_map, hn]; rfl)
      have hx2 := hx.same e2
      repeat walk_at "st"
      rw [Int.zero_add]
      refine w_listSl (xs := ns.map V.int) (lo := none) (hi := some (i : Int)) hx2 (fun R hR => ?_) fun D H3 hD e3 hD3 => ?_
      · repeat walk_at "st"
        exact hR
      have ec : cutV (ns.map V.int) none (some ((i : Nat) : Int)) = (ns.take i).map V.int := by
        unfold cutV
        rw [← List.map_drop, ← List.map_take]
        congr 1
        show (ns.drop 0).take (HT.sIx (ns.map V.int).length (ns.map V.int).length (some (i : Int)) - 0) = _
        rw [HT.sIx_nat, List.length_map, List.drop_zero, Nat.sub_zero, Nat.min_eq_left (by omega)]
      rw [ec] at hD3
      have hx3 := hx2.same e3
      have e23 := e2.trans e3
      have hf3 := e3 _ _ hf2
      have z0 : ∀ z : Int, z ≠ 0 → ahd (ns.take i) z = ((ns.take i).count z : Nat) := fun z hz => by unfold ahd; rw [if_neg hz]; omega
      have c0 : (ns.take i).count (0 : Int) = 0 := List.count_eq_zero.mpr fun z => by have := ok.1 0 (List.mem_of_mem_take z); omega
      obtain ⟨b1, b2⟩ := ahd_bound (ns.take i) (n - 1)
      obtain ⟨b3, b4⟩ := ahd_bound (ns.take i) n
      walk_at "st"
      with_reducible refine w_join (fun σ' H' => σ' = [some (.int q), some x, some (.ref fo), some (.int (i : Nat)), some (.ref D), some (.int (q * ahd (ns.take i) (n - 1)))] ∧ H' = H3) (fun X hX => ?_) ?_
      · repeat walk_at "st"
        refine w_ixSq hx3 ea ?_
        repeat walk_at "st"
        refine w_ite (fun h3 => ?_) (fun h3 => ?_)
        · repeat walk_at "st"
          refine w_ixSq hx3 ea ?_
          repeat walk_at "st"
          refine ⟨D, ns.take i, n - 1, rfl, rfl, SqL.of hD3, ?_⟩
          rw [← z0 (n - 1) (by omega)]
          repeat walk_at "st"
          exact hX _ _ ⟨rfl, rfl⟩
        · obtain rfl : n = 1 := by omega
          repeat walk_at "st"
          have e1 : ahd (ns.take i) (1 - 1) = 1 := by
            show ahd (ns.take i) 0 = 1
            unfold ahd
            rw [c0]
            rfl
          refine hX _ _ ⟨?_, rfl⟩
          rw [e1]
      · rintro σ' H4 ⟨rfl, rfl⟩
        have gm : ∀ v, v = chAt q ns i → H4 fo = some (.lst (((List.range i).map (chAt q ns)).map V.int)) → Same H (upd H4 fo (.lst (((List.range i).map (chAt q ns)).map V.int ++ [.int v]))) ∧ upd H4 fo (.lst (((List.range i).map (chAt q ns)).map V.int ++ [.int v])) fo = some (.lst (((List.range (i + 1)).map (chAt q ns)).map V.int)) := by
          rintro v rfl hf
          refine ⟨fun b o hb => ?_, ?_⟩
          · rw [upd_ne (ne_of_none hb hfo)]
            exact e23 b o hb
          · rw [upd_same, List.range_succ, List.map_append, List.map_append]
            rfl
        repeat walk_at "st"
        refine w_lenSq hx3 ?_
        rw [List.length_map]
        repeat walk_at "st"
        refine w_ite (fun h3 => ?_) (fun h3 => ?_)
        · have h4 : i + 1 = ns.length := by injection h3 with h3; omega
          repeat walk_at "st"
          refine w_append (xs := ((List.range i).map (chAt q ns)).map V.int) hf3 pl ?_
          repeat walk_at "st"
          exact ⟨_, _, _, rfl, gm _ (by unfold chAt; rw [gn, if_pos h4]) hf3⟩
        · have h4 : ¬ i + 1 = ns.length := fun z => h3 (by congr 1; omega)
          repeat walk_at "st"
          refine w_ixSq hx3 ea ?_
          repeat walk_at "st"
          refine ⟨D, ns.take i, n, rfl, rfl, SqL.of hD3, ?_⟩
          rw [← z0 n (by omega)]
          repeat walk_at "st"
          refine w_append (xs := ((List.range i).map (chAt q ns)).map V.int) hf3 pl ?_
          repeat walk_at "st"
          exact ⟨_, _, _, rfl, gm _ (by unfold chAt; rw [gn, if_neg h4]) hf3⟩
    · rintro σ' H2 ⟨o3, o4, o5, rfl, e2, hf2⟩
      repeat walk_at "st"
      exact k fo H2 e2 hfo hf2
theorem d_law_product (T : Txt K mg) (F : FD K mg "_law_product" s_law_product) : Dn P w K mg base 1 "_law_product" s_law_product ["numbers"] (spLProduct) := by
  refine dn_of F (fun _ _ _ _ _ _ us hl => match us, hl with | [_], _ => rfl) sc_law_product (fun vs H Q E h => ?_) (fun fa cdv A outer s H vs Q E hr h => ?_)
  · obtain ⟨a, ms, rfl, _⟩ := h
    rfl
  · obtain ⟨a, ms, rfl, ha, hb, k⟩ := h
    refine ⟨_, PSs.nox (pss_cons (ps_set (i := 1) sc_law_product.nd rfl (Or.inl rfl) pe_int)
 (pss_cons (ps_for PassesOwn.never rfl (pi_list (pv 0)) (pg_name (i := 2) sc_law_product.nd rfl (Or.inl rfl))
 (pss_one (ps_set (i := 1) sc_law_product.nd rfl (Or.inl rfl) (pe_op op_mulA (pv 1) (pe_callB (call_max2 rfl) (by rfl) T.n_max (by decide +kernel) (pa_cons pe_int (pa_cons (pv 2) pa_nil)))))))
 (pss_one (ps_ret (pv 1))))), ?_⟩
    refine w_start (σ := [some (.ref a), none, none]) rfl ?_
    repeat walk_at "st"
    with_reducible refine w_seq ?_
    repeat walk_at "st"
    try refine ⟨⟨_, SqL.of ha⟩, ?_⟩
    refine L2.for_list (xs := ms.map V.int) (fun i σ' H' => ∃ o2, σ' = [some (.ref a), some (.int (prodO (ms.take i))), o2] ∧ H' = H) ⟨none, rfl, rfl⟩ (fun i σ' H' _ ⟨_, _, e⟩ => by rw [e]; exact SqL.of ha) ?_ ?_
    · rintro i y σ' H' hy ⟨o2, rfl, rfl⟩
      obtain ⟨m, hm, rfl⟩ : ∃ m, ms[i]? = some m ∧ y = .int m := by
        rw [List.getElem?_map] at hy
        cases c : ms[i]? with
        | none => rw [c] at hy; cases hy
        | some m => rw [c] at hy; exact ⟨m, rfl, (Option.some.inj hy).symm⟩
      have bm := hb m (List.mem_of_getElem? hm)
      repeat walk_at "st"
      refine ⟨_, _, rfl, ?_⟩
      refine ⟨_, _, rfl, rfl, .inl (.inr ⟨by split <;> omega, by split <;> omega⟩), ?_⟩
      repeat walk_at "st"
      exact ⟨some (.int m), by rw [show prodO (ms.take (i + 1)) = prodO (ms.take i) * (if m > 0 then m else 0) by unfold prodO; rw [List.take_add_one, hm, List.foldl_append]; rfl], rfl⟩
    · rintro σ' H' ⟨o2, rfl, rfl⟩
      rw [List.length_map, List.take_length]
      repeat walk_at "st"
      exact k
end

/-! ### the lengths of a text have one text at least -/
def lens (L : List Wd) : List Int := L.map fun w => ((w.length : Nat) : Int)
theorem nodup_le : ∀ {A B : List Wd}, A.Nodup → (∀ a ∈ A, a ∈ B) → A.length ≤ B.length
  | [], _, _, _ => Nat.zero_le _
  | a :: A, B, nd, h => by
    have hd := List.nodup_cons.mp nd
    have ha := h a List.mem_cons_self
    have ih := nodup_le (A := A) (B := B.erase a) hd.2 fun x hx => (List.mem_erase_of_ne (fun e => hd.1 (by rw [← e]; exact hx))).mpr (h x (List.mem_cons_of_mem _ hx))
    have hl := List.length_erase_of_mem ha
    have := List.length_pos_of_mem ha
    rw [List.length_cons]
    omega
theorem flat_len (G : List Nat) : ∀ F : List Wd, (F.flatMap fun p => G.map fun c => p ++ [c]).length = F.length * G.length
  | [] => by simp
  | p :: F => by
    rw [List.flatMap_cons, List.length_append, flat_len G F, List.length_map, List.length_cons, Nat.succ_mul]
    omega
def ofLen (L : List Wd) (n : Nat) : List Wd := L.filter fun w => decide (w.length = n)
theorem ahd_lens (D : List Wd) (n : Nat) : ahd (lens D) (n : Int) = ((ofLen ([] :: D) n).length : Nat) := by
  have h : ∀ D : List Wd, (lens D).count (n : Int) = (ofLen D n).length := by
    intro D
    induction D with
    | nil => rfl
    | cons w D ih =>
      unfold lens ofLen at ih ⊢
      rw [List.map_cons, List.count_cons, ih, List.filter_cons]
      by_cases e : w.length = n
      · rw [if_pos (by rw [e]; exact beq_self_eq_true _), if_pos (decide_eq_true e), List.length_cons]
      · rw [if_neg (by intro z; exact e (by have := eq_of_beq z; omega)), if_neg (by rw [decide_eq_false e]; decide)]
        rfl
  unfold ahd
  rw [h]
  unfold ofLen
  rw [List.filter_cons]
  by_cases e : n = 0
  · rw [if_pos (by omega), if_pos (decide_eq_true (by rw [e]; rfl)), List.length_cons]
    omega
  · rw [if_neg (by omega), if_neg (by rw [decide_eq_false (fun z => e z.symm)]; decide)]
    omega
structure Bk (q : Nat) (L : List Wd) : Prop where
  nd : L.Nodup
  pc : PC (tS q) L
  ab : ∀ x ∈ L, ∀ c ∈ x, c ∈ abcL.take q
theorem cnt_step {q n : Nat} {L : List Wd} {w : Wd} (b : Bk q L) (hw : w ∉ L) (hp : w.take n ∈ L) (hl : w.length = n + 1) (ha : ∀ c ∈ w, c ∈ abcL.take q) : (ofLen L (n + 1)).length + 1 ≤ q * (ofLen L n).length := by
  have h := nodup_le (A := w :: ofLen L (n + 1)) (B := (ofLen L n).flatMap fun p => (abcL.take q).map fun c => p ++ [c]) (List.nodup_cons.mpr ⟨fun z => hw ((List.mem_filter.mp z).1), b.nd.sublist List.filter_sublist⟩) ?_
  · rw [flat_len, List.length_cons, List.length_take, Nat.mul_comm] at h
    exact Nat.le_trans h (Nat.mul_le_mul_right _ (Nat.min_le_left _ _))
  · have one : ∀ a : Wd, a.length = n + 1 → a.take n ∈ L → (∀ c ∈ a, c ∈ abcL.take q) → a ∈ (ofLen L n).flatMap fun p => (abcL.take q).map fun c => p ++ [c] := by
      intro a al ap aa
      refine List.mem_flatMap.mpr ⟨a.take n, List.mem_filter.mpr ⟨ap, decide_eq_true (by rw [List.length_take]; omega)⟩, List.mem_map.mpr ⟨a[n]'(by omega), aa _ (List.getElem_mem _), ?_⟩⟩
      rw [List.take_append_getElem, ← al, List.take_length]
    intro a h
    rcases List.mem_cons.mp h with rfl | h
    · exact one _ hl hp ha
    · obtain ⟨h1, h2⟩ := List.mem_filter.mp h
      have h2 := of_decide_eq_true h2
      exact one a h2 ((b.pc a h1).2 n (Nat.zero_le _) (by omega)) (b.ab a h1)
theorem ofLen_pos {L : List Wd} {w : Wd} (h : w ∈ L) : 1 ≤ (ofLen L w.length).length := List.length_pos_of_mem (List.mem_filter.mpr ⟨h, decide_eq_true rfl⟩)
theorem lens_take (D ws : List Wd) : (lens (D ++ ws)).take D.length = lens D := by
  unfold lens
  rw [List.map_append, List.take_left' (by rw [List.length_map])]
theorem lens_at (D ws : List Wd) (w : Wd) : (lens (D ++ w :: ws)).getD D.length 0 = ((w.length : Nat) : Int) := by
  unfold lens
  rw [List.getD_eq_getElem?_getD, List.getElem?_map, List.getElem?_append_right (Nat.le_refl _), Nat.sub_self]
  rfl
theorem steps_nil (q f : Nat) (st : Shf) : stepsF (tS q) f st [] = [] := by cases f <;> rfl
theorem row_pos (q : Nat) (q1 : 2 ≤ q) : ∀ (f : Nat) (D : List Wd) (st : Shf) (r : Wd), st.ws = [] :: D → Bk q ([] :: D) → r.length ≤ f → (∀ c ∈ r, c ∈ abcL.take q) →
    ∀ i, D.length ≤ i → i < (D ++ (stepsF (tS q) f st r).map (rowW (tS q))).length → 1 ≤ chAt q (lens (D ++ (stepsF (tS q) f st r).map (rowW (tS q)))) i
  | 0, D, st, r, hs, b, hf, ha => by
    intro i h1 h2
    rw [show stepsF (tS q) 0 st r = [] from rfl, List.map_nil, List.append_nil] at h2
    omega
  | f + 1, D, st, r, hs, b, hf, ha => by
    intro i h1 h2
    by_cases hrn : r = []
    · rw [hrn, steps_nil, List.map_nil, List.append_nil] at h2
      omega
    have rp : 0 < r.length := List.length_pos_iff.mpr hrn
    obtain ⟨wl, g⟩ := st
    obtain rfl : wl = [] :: D := hs
    obtain ⟨t1, t2, t3⟩ := step_told q ([] :: D) g r List.mem_cons_self
    have hin : r.take (lgst (tS q) ([] :: D) r) ∈ [] :: D := lsz_in _ r _ _ (by show r.take 0 ∈ _; rw [List.take_zero]; exact List.mem_cons_self)
    have hfr := fresh_new (S := tS q) (L := [] :: D) (r := r) (Nat.zero_le _) b.pc
    have e1 : stepsF (tS q) (f + 1) ⟨[] :: D, g⟩ r = (step1 (tS q) ⟨[] :: D, g⟩ r).1 :: stepsF (tS q) f (step1 (tS q) ⟨[] :: D, g⟩ r).2.1 (step1 (tS q) ⟨[] :: D, g⟩ r).2.2 := by
      show (if r = [] then [] else _) = _
      rw [if_neg hrn]
    rw [e1, List.map_cons, t1, t3] at h2 ⊢
    obtain ⟨n, en⟩ : ∃ n, n = lgst (tS q) ([] :: D) r := ⟨_, rfl⟩
    rw [← en] at hin hfr t2 h2 ⊢
    rw [take_drop1] at hfr
    obtain ⟨w, ew⟩ : ∃ w, w = r.take (n + 1) := ⟨_, rfl⟩
    have wl : w.length = min (n + 1) r.length := by rw [ew, List.length_take]
    have wa : ∀ c ∈ w, c ∈ abcL.take q := fun c hc => ha c (by rw [ew] at hc; exact List.mem_of_mem_take hc)
    rw [← ew] at h2 hfr t2 ⊢
    by_cases hr' : r.drop (n + 1) = []
    · rw [hr', steps_nil, List.map_nil] at h2 ⊢
      rw [List.length_append, List.length_singleton] at h2
      obtain rfl : i = D.length := by omega
      unfold chAt
      rw [if_pos (by unfold lens; rw [List.length_map, List.length_append]; rfl), lens_take, lens_at]
      have hp : w.take (w.length - 1) ∈ [] :: D := by
        by_cases c : n < r.length
        · rw [wl, Nat.min_eq_left (by omega), Nat.add_sub_cancel, ew, List.take_take, Nat.min_eq_left (by omega)]
          exact hin
        · have e : w = r.take n := by rw [ew, List.take_of_length_le (by omega), List.take_of_length_le (by omega)]
          rw [← e] at hin
          exact (b.pc w hin).2 _ (Nat.zero_le _) (by omega)
      have h3 := ofLen_pos hp
      rw [List.length_take, Nat.min_eq_left (by omega)] at h3
      have e3 : ((w.length : Nat) : Int) - 1 = ((w.length - 1 : Nat) : Int) := by omega
      rw [e3, ahd_lens]
      have : (2 : Int) * 1 ≤ (q : Int) * ((ofLen ([] :: D) (w.length - 1)).length : Nat) := Int.mul_le_mul (by omega) (by omega) (by decide) (by omega)
      omega
    · have hn : n + 1 < r.length := by
        rcases Nat.lt_or_ge (n + 1) r.length with y | y
        · exact y
        · exact absurd (List.drop_eq_nil_of_le y) hr'
      have wl1 : w.length = n + 1 := by omega
      have hw : w ∉ [] :: D := hfr fun z => by
        have := congrArg List.length z
        rw [List.length_take, List.length_drop, List.length_nil] at this
        omega
      have hwp : w.take n = r.take n := by rw [ew, List.take_take, Nat.min_eq_left (by omega)]
      have t4 : (step1 (tS q) ⟨[] :: D, g⟩ r).2.1.ws = [] :: (D ++ [w]) := by
        rw [t2]
        unfold addW
        rw [if_neg hw]
        rfl
      have b' : Bk q ([] :: (D ++ [w])) := by
        have e : [] :: (D ++ [w]) = ([] :: D) ++ [w] := rfl
        rw [e]
        refine ⟨?_, ?_, fun x hx => ?_⟩
        · rw [List.nodup_append]
          exact ⟨b.nd, by simp, fun x hx y hy => by rw [List.mem_singleton.mp hy]; exact fun z => hw (by rw [← z]; exact hx)⟩
        · have h4 := pc_grow (S := tS q) (l := (r.drop n).take 1) b.pc hin (by rw [List.length_take]; omega)
          rw [take_drop1, ← ew] at h4
          exact h4
        · rcases List.mem_append.mp hx with hx | hx
          · exact b.ab x hx
          · rw [List.mem_singleton.mp hx]
            exact wa
      have rl' : (r.drop (n + 1)).length ≤ f := by rw [List.length_drop]; omega
      have ih := row_pos q q1 f (D ++ [w]) (step1 (tS q) ⟨[] :: D, g⟩ r).2.1 (r.drop (n + 1)) t4 b' rl' (fun c hc => ha c (List.mem_of_mem_drop hc)) i
      obtain ⟨ws, ews⟩ : ∃ ws, ws = (stepsF (tS q) f (step1 (tS q) ⟨[] :: D, g⟩ r).2.1 (r.drop (n + 1))).map (rowW (tS q)) := ⟨_, rfl⟩
      have wp : 0 < ws.length := by
        cases f with
        | zero => rw [List.length_drop] at rl'; omega
        | succ f =>
          rw [ews]
          have e : stepsF (tS q) (f + 1) (step1 (tS q) ⟨[] :: D, g⟩ r).2.1 (r.drop (n + 1)) = (step1 (tS q) (step1 (tS q) ⟨[] :: D, g⟩ r).2.1 (r.drop (n + 1))).1 :: stepsF (tS q) f (step1 (tS q) (step1 (tS q) ⟨[] :: D, g⟩ r).2.1 (r.drop (n + 1))).2.1 (step1 (tS q) (step1 (tS q) ⟨[] :: D, g⟩ r).2.1 (r.drop (n + 1))).2.2 := by
            show (if r.drop (n + 1) = [] then [] else _) = _
            rw [if_neg hr']
          rw [e, List.map_cons, List.length_cons]
          omega
      rw [← ews] at h2 ih ⊢
      rw [List.append_assoc, List.singleton_append] at ih
      by_cases ei : i = D.length
      · subst ei
        unfold chAt
        rw [if_neg (by unfold lens; rw [List.length_map, List.length_append, List.length_cons]; omega), lens_take, lens_at, wl1]
        have e3 : ((n + 1 : Nat) : Int) - 1 = ((n : Nat) : Int) := by omega
        rw [e3, ahd_lens, ahd_lens]
        have h5 := cnt_step b hw (by rw [hwp]; exact hin) wl1 wa
        have h6 : ((ofLen ([] :: D) (n + 1)).length : Int) + 1 ≤ (q : Int) * ((ofLen ([] :: D) n).length : Nat) := by
          rw [← Int.natCast_mul]
          exact Int.ofNat_le.mpr h5
        omega
      · exact ih (by rw [List.length_append, List.length_singleton]; omega) h2
theorem prod_pos {ms : List Int} (h : ∀ m ∈ ms, 1 ≤ m) : 1 ≤ prodO ms := by
  have : ∀ (ms : List Int) (acc : Int), (∀ m ∈ ms, 1 ≤ m) → 1 ≤ acc → 1 ≤ ms.foldl (fun acc m => acc * (if m > 0 then m else 0)) acc := by
    intro ms
    induction ms with
    | nil => exact fun acc _ h => h
    | cons m ms ih =>
      intro acc hm ha
      rw [List.foldl_cons]
      refine ih _ (fun x hx => hm x (List.mem_cons_of_mem _ hx)) ?_
      have m1 := hm m List.mem_cons_self
      rw [if_pos (by omega)]
      have : (1 : Int) * 1 ≤ acc * m := Int.mul_le_mul ha m1 (by decide) (by omega)
      omega
  exact this ms 1 h (by decide)
theorem row_counted {q : Nat} {l : Wd} (q1 : 2 ≤ q) (ha : ∀ c ∈ l, c ∈ abcL.take q) : 1 ≤ prodO (chs q (lens (rowOf (tS q) l))) := by
  refine prod_pos fun m hm => ?_
  obtain ⟨i, hi, rfl⟩ := List.mem_map.mp hm
  have hi := List.mem_range.mp hi
  have b : Bk q [[]] := ⟨by simp, fun w hw => ⟨Nat.zero_le _, fun k _ hk => by rw [List.mem_singleton.mp hw] at hk ⊢; simp⟩, fun x hx c hc => by rw [List.mem_singleton.mp hx] at hc; cases hc⟩
  have h := row_pos q q1 l.length [] ⟨firstW (tS q), 0⟩ l rfl b (Nat.le_refl _) ha i (Nat.zero_le _)
  unfold lens at hi
  rw [List.length_map] at hi
  exact h hi

/-! ### lengths bent, texts counted -/
def Good (ns : List Int) (M : Int) : Prop := (∀ n ∈ ns, 1 ≤ n) ∧ ns.sum ≤ M
theorem good_le : ∀ {ns : List Int}, (∀ n ∈ ns, 1 ≤ n) → (ns.length : Int) ≤ ns.sum ∧ ∀ n ∈ ns, n ≤ ns.sum
  | [], _ => ⟨by simp, fun n hn => nomatch hn⟩
  | m :: ns, h => by
    obtain ⟨h1, h2⟩ := good_le fun n hn => h n (List.mem_cons_of_mem _ hn)
    have hm := h m List.mem_cons_self
    rw [List.sum_cons, List.length_cons]
    refine ⟨by omega, fun n hn => ?_⟩
    rcases List.mem_cons.mp hn with rfl | hn
    · omega
    · have := h2 n hn
      omega
theorem ok_good {ns : List Int} {M : Int} (h : Good ns M) (hM : M ≤ 5000) : IntsOk ns := by
  obtain ⟨h1, h2⟩ := h
  obtain ⟨h3, h4⟩ := good_le h1
  exact ⟨fun n hn => ⟨h1 n hn, by have := h4 n hn; omega⟩, by omega, by omega⟩
theorem pen_neI {H : Hp} {p c a : Addr} {n : Int} {ns : List Int} (hp : PenB H p c n) (h : H a = some (.lst (ns.map V.int))) : a ≠ p := by
  rintro rfl
  obtain ⟨cells, x, y, h1, _⟩ := hp
  rw [h1] at h
  injection h with h
  injection h with h
  cases ns with
  | nil => cases h
  | cons m ns => injection h with h _; cases h
theorem Keep.ints {H H' : Hp} {p c a : Addr} {n : Int} {ns : List Int} (e : Keep p H H') (hp : PenB H p c n) (h : H a = some (.lst (ns.map V.int))) : H' a = some (.lst (ns.map V.int)) := e _ _ (pen_neI hp h) h
theorem w_eqInts {K : PySem.W.Frag} {H : Hp} {Q : VK} {a b : Addr} {L : List Int} (ha : H a = some (.lst (L.map V.int))) (hb : H b = some (.lst (L.map V.int))) (q : Q (.bl true) H) : rEqD K (.ref a) (.ref b) H Q :=
  ⟨.list (L.map .int), .list (L.map .int), .lst (SqL.of ha) (dpAll_ints L), .lst (SqL.of hb) (dpAll_ints L), shaped_ints L, shaped_ints L, by rw [SeqAt.eqv_refl _ (Bool.and_eq_true_iff.mp (shaped_ints L)).1]; exact q⟩
theorem w_tupSq {K : PySem.W.Frag} {H : Hp} {Q : VK} {x : V} {xs : List V} (h : Seq2 H x xs) (q : ∀ l H', Same H H' → H' l = some (.tup xs) → Q (.ref l) H') : rTupOf K [x] H Q := by
  obtain ⟨a, rfl, h | h⟩ := h
  · exact ⟨a, xs, rfl, .inl ⟨SqL.of h, fun l hl => q l _ (same_new hl (Same.refl H)) upd_same⟩⟩
  · exact ⟨a, xs, rfl, .inr ⟨SqT.of h, q a H (Same.refl H) h⟩⟩
theorem sum_perm {a b : List Int} (h : a.Perm b) : a.sum = b.sum := by
  induction h with
  | nil => rfl
  | cons x _ ih => rw [List.sum_cons, List.sum_cons, ih]
  | swap x y l => rw [List.sum_cons, List.sum_cons, List.sum_cons, List.sum_cons]; omega
  | trans _ _ h1 h2 => rw [h1, h2]
theorem good_perm {a b : List Int} {M : Int} (h : a.Perm b) (g : Good b M) : Good a (M + 4) := ⟨fun n hn => g.1 n (h.mem_iff.mp hn), by rw [sum_perm h]; have := g.2; omega⟩
theorem sum_ge {ns : List Int} (h : ∀ n ∈ ns, 1 ≤ n) : 0 ≤ ns.sum := by have := (good_le h).1; omega
theorem sum_cut (ns : List Int) (s : Nat) : (ns.take s).sum + (ns.drop s).sum = ns.sum := by
  rw [← List.sum_append, List.take_append_drop]
theorem good_cut0 {ns : List Int} {M : Int} (s : Nat) (g : Good ns M) : Good (ns.take s ++ ns.drop (s + 1)) (M + 4) := by
  refine ⟨fun n hn => ?_, ?_⟩
  · rcases List.mem_append.mp hn with h | h
    · exact g.1 n (List.mem_of_mem_take h)
    · exact g.1 n (List.mem_of_mem_drop h)
  · rw [List.sum_append]
    have h1 := sum_cut ns s
    have h2 := sum_cut (ns.drop s) 1
    rw [List.drop_drop] at h2
    have h3 := sum_ge (ns := (ns.drop s).take 1) fun n hn => g.1 n (List.mem_of_mem_drop (List.mem_of_mem_take hn))
    have := g.2
    omega
theorem good_cut1 {ns : List Int} {M v : Int} (s : Nat) (g : Good ns M) (v1 : 1 ≤ v) (v4 : v ≤ 4) : Good (ns.take s ++ [v] ++ ns.drop s) (M + 4) := by
  refine ⟨fun n hn => ?_, ?_⟩
  · rcases List.mem_append.mp hn with h | h
    · rcases List.mem_append.mp h with h | h
      · exact g.1 n (List.mem_of_mem_take h)
      · rw [List.mem_singleton.mp h]
        exact v1
    · exact g.1 n (List.mem_of_mem_drop h)
  · rw [List.sum_append, List.sum_append, List.sum_singleton]
    have h1 := sum_cut ns s
    have := g.2
    omega
theorem good_cut2 {ns : List Int} {M : Int} (s : Nat) (g : Good ns M) : Good (ns.take s ++ ((ns.drop s).take 2).reverse ++ ns.drop (s + 2)) (M + 4) := by
  refine good_perm ?_ g
  have e : ns = ns.take s ++ (ns.drop s).take 2 ++ ns.drop (s + 2) := by
    rw [List.append_assoc, ← List.drop_drop, List.take_append_drop, List.take_append_drop]
  have h : (ns.take s ++ ((ns.drop s).take 2).reverse ++ ns.drop (s + 2)).Perm (ns.take s ++ (ns.drop s).take 2 ++ ns.drop (s + 2)) := ((List.reverse_perm _).append_left _).append_right _
  exact h.trans (by rw [← e])
theorem cut_to {ns : List Int} {s : Nat} (h : s ≤ ns.length) : cutV (ns.map V.int) none (some ((s : Nat) : Int)) = (ns.take s).map V.int := by
  unfold cutV
  rw [← List.map_drop, ← List.map_take]
  congr 1
  show (ns.drop 0).take (HT.sIx (ns.map V.int).length (ns.map V.int).length (some (s : Int)) - 0) = _
  rw [HT.sIx_nat, List.length_map, List.drop_zero, Nat.sub_zero, Nat.min_eq_left h]
theorem cut_from {ns : List Int} {s : Nat} : cutV (ns.map V.int) (some ((s : Nat) : Int)) none = (ns.drop s).map V.int := by
  unfold cutV
  rw [← List.map_drop, ← List.map_take]
  congr 1
  rw [HT.sIx_nat, HT.sIx_none, List.length_map]
  rcases Nat.le_total s ns.length with h | h
  · rw [Nat.min_eq_left h, List.take_of_length_le (by rw [List.length_drop]; exact Nat.le_refl _)]
  · rw [Nat.min_eq_right h, List.drop_length, List.drop_eq_nil_of_le h, List.take_nil]
theorem cut_mid {ns : List Int} {s : Nat} (h : s ≤ ns.length) : cutV (ns.map V.int) (some ((s : Nat) : Int)) (some ((s + 2 : Nat) : Int)) = ((ns.drop s).take 2).map V.int := by
  unfold cutV
  rw [← List.map_drop, ← List.map_take]
  congr 1
  rw [HT.sIx_nat, HT.sIx_nat, List.length_map, Nat.min_eq_left h]
  rcases Nat.le_total (s + 2) ns.length with h2 | h2
  · rw [Nat.min_eq_left h2, Nat.add_sub_cancel_left]
  · rw [Nat.min_eq_right h2, List.take_of_length_le (by rw [List.length_drop]; exact Nat.le_refl _), List.take_of_length_le (by rw [List.length_drop]; omega)]
theorem w_catI {H : Hp} {Q : VK} {a b : Addr} {xs ys : List Int} (ha : H a = some (.lst (xs.map V.int))) (hb : H b = some (.lst (ys.map V.int))) (hl : xs.length + ys.length ≤ sizeLine) (q : ∀ p, H p = none → Q (.ref p) (upd H p (.lst ((xs ++ ys).map V.int)))) : rCat (.ref a) (.ref b) H Q :=
  ⟨a, b, _, _, rfl, rfl, ha, hb, by rw [List.length_map, List.length_map]; exact hl, fun p hp => by have := q p hp; rw [List.map_append] at this; exact this⟩
def spLBent (K : PySem.W.Frag) : Sp := fun vs H Q _ => ∃ p c a ns n M, vs = [.ref p, .ref a] ∧ H a = some (.lst (ns.map V.int)) ∧ Good ns M ∧ M ≤ 4000 ∧ PenB H p c n ∧ n ≤ 80000 ∧
  ∀ D ns' H', Keep p H H' → H' D = some (.lst (ns'.map V.int)) → Good ns' (M + 4) → PenB H' p c (n + 3) → Q (.ref D) H'
def spLCounted (K : PySem.W.Frag) : Sp := fun vs H Q _ => ∃ q x ns, vs = [.int q, x] ∧ Seq2 H x (ns.map V.int) ∧ IntsOk ns ∧ 2 ≤ q ∧ q ≤ 26 ∧ ∀ H', Same H H' → Q (.bl true) H'
theorem w_revL {K : PySem.W.Frag} {σ : L2.St} {H : Hp} {Q : VK} {te : TE} (q : te σ H fun x H1 => ∃ a xs, x = .ref a ∧ SqL K H1 a xs ∧ ∀ p, H1 p = none → Q (.ref p) (upd H1 p (.lst xs.reverse))) : tRevL K te σ H Q := q
set_option hygiene false in
local macro_rules | `(tactic| walk_at "st") => `(tactic| first
  | ((with_reducible refine' w_aug ?h ?_); (case h => exact rfl))
  | (with_reducible first | refine w_bm ?_ | refine w_fldAug ?_ | refine w_seqU ?_ | refine w_enumL ?_)
  | ((with_reducible refine' w_tyL ?h ?_); (case h => walk_at "hp"))
  | ((with_reducible refine' w_enumLAt ?h ?_); (case h => walk_at "hp")))

set_option hygiene false in
local macro_rules | `(tactic| walk_at "st") => `(tactic| (with_reducible first | refine w_revL ?_ | refine w_seqP3 ?_ | refine w_par3 ?_ | refine w_three ?_ | refine w_pc ?_ | refine w_pn ?_ | refine w_dget2 ?_ | refine w_bm ?_))
section
variable {P : Program} {w : World} {K : PySem.W.Frag} {mg : Str → Option Value} {base : Heap}
theorem d_law_bent (T : Txt K mg) (F : FD K mg "_law_bent" s_law_bent) (c_law_draw : Dn P w K mg base 1 "_law_draw" s_law_draw ["pen", "many"] (spDraw)) : Dn P w K mg base 2 "_law_bent" s_law_bent ["pen", "lengths"] (spLBent K) := by
  refine dn_of F (fun _ _ _ _ _ _ us hl => match us, hl with | [_, _], _ => rfl) sc_law_bent (fun vs H Q E h => ?_) (fun fa cdv A outer s H vs Q E hr h => ?_)
  · obtain ⟨p, c, a, ns, n, M, rfl, _⟩ := h
    rfl
  · obtain ⟨p, c, a, ns, n, M, rfl, ha, hg, hM, hp, hn, k⟩ := h
    have sz := sizeLine_eq
    refine ⟨_, PSs.nox (pss_cons (ps_par (i := 2) (j := 3) (by rfl) sc_law_bent.nd rfl rfl (by decide) rfl rfl (pa_cons (pe_callTy cl_listOf (by rfl) T.n_list (by decide +kernel) (pa_cons (pv 1) pa_nil)) (pa_cons (pe_d c_law_draw hr (by decide) rfl (pa_cons (pv 0) (pa_cons pe_int pa_nil))) pa_nil)) (by rfl))
 (pss_cons (ps_set (i := 4) sc_law_bent.nd rfl (Or.inl rfl) (pe_d c_law_draw hr (by decide) rfl (pa_cons (pv 0) (pa_cons (pe_op op_add (pe_callB cl_lenQ (by rfl) T.n_len (by decide +kernel) (pa_cons (pv 2) pa_nil)) pe_int) pa_nil))))
 (pss_cons (ps_if (pt_cmpR op_eq (pv 3) pe_int (nomark _))
 (pss_one (ps_ret (pe_op op_cat (pe_slice sl_list (pv 2) po_none (po_some (pv 4))) (pe_slice sl_list (pv 2) (po_some (pe_op op_add (pv 4) pe_int)) po_none))))
 pss_nil)
 (pss_cons (ps_if (pt_cmpR op_eq (pv 3) pe_int (nomark _))
 (pss_one (ps_ret (pe_op op_cat (pe_op op_cat (pe_slice sl_list (pv 2) po_none (po_some (pv 4))) (pe_lst (pa_cons (pe_op op_add pe_int (pe_d c_law_draw hr (by decide) rfl (pa_cons (pv 0) (pa_cons pe_int pa_nil)))) pa_nil))) (pe_slice sl_list (pv 2) (po_some (pv 4)) po_none))))
 pss_nil)
 (pss_cons (ps_if (pt_cmpR op_eq (pv 3) pe_int (nomark _))
 (pss_one (ps_ret (pe_op op_cat (pe_op op_cat (pe_slice sl_list (pv 2) po_none (po_some (pv 4))) (pe_revL (pe_slice sl_list (pv 2) (po_some (pv 4)) (po_some (pe_op op_add (pv 4) pe_int))))) (pe_slice sl_list (pv 2) (po_some (pe_op op_add (pv 4) pe_int)) po_none))))
 pss_nil)
 (pss_one (ps_ret (pe_ifExp (pt_cmpR op_eq (pv 3) pe_int (nomark _)) (pe_revL (pv 2)) (pe_callB cr_sortedI (by rfl) T.n_sorted (by decide +kernel) (pa_cons (pe_lc (own := [("length", 5)]) (tt := tYes) (g := gName 5) rfl sc_law_bent.nd (pi_list (pv 2)) (blkOk_by (N := ["pen", "lengths", "row", "way", "spot", "length"]) (sc := defScope s_law_bent) (by decide +kernel)) (fun _ _ _ _ _ => (pg_name (i := 5) sc_law_bent.nd rfl (Or.inl rfl))) (fun _ _ _ _ _ => pts_nil) (fun _ _ _ _ _ => (pe_callTy cl_int1 (by rfl) T.n_int (by decide +kernel) (pa_cons (pv 5) pa_nil)))) pa_nil)))))))))), ?_⟩
    refine w_start (σ := [some (.ref p), some (.ref a), none, none, none, none]) rfl ?_
    repeat walk_at "st"
    refine ⟨a, _, rfl, .inl (SqL.of ha), fun r hr' => ?_⟩
    have hp1 := hp.new (o := .lst (ns.map V.int)) hr'
    have hr1 : upd H r (.lst (ns.map V.int)) r = some (.lst (ns.map V.int)) := upd_same
    have k1 : Keep p H (upd H r (.lst (ns.map V.int))) := (Keep.refl p H).alloc hp hr'
    generalize upd H r (.lst (ns.map V.int)) = H1 at hp1 hr1 k1 ⊢
    repeat walk_at "st"
    refine ⟨p, c, 5, _, rfl, by decide, by decide, hp1, by omega, fun way H2 w0 w1 e2 hp2 => ?_⟩
    have hr2 := e2.ints hp1 hr1
    repeat walk_at "st"
    have nl := (good_le hg.1).1
    have nm := hg.2
    rw [List.length_map]
    refine ⟨p, c, (ns.length : Nat) + 1, _, rfl, by omega, log2_int (by omega) (by omega), hp2, by omega, fun spot H3 s0 s1 e3 hp3 => ?_⟩
    obtain ⟨s, rfl⟩ : ∃ s : Nat, spot = s := ⟨spot.toNat, by omega⟩
    have hr3 := e3.ints hp2 hr2
    have sl : s ≤ ns.length := by omega
    have k3 : Keep p H H3 := (k1.trans e2).trans e3
    have es1 : ((s : Nat) : Int) + 1 = ((s + 1 : Nat) : Int) := by omega
    have es2 : ((s : Nat) : Int) + 2 = ((s + 2 : Nat) : Int) := by omega
    have lt : ∀ j, (ns.take j).length ≤ ns.length := fun j => by rw [List.length_take]; omega
    have ld : ∀ j, (ns.drop j).length ≤ ns.length := fun j => by rw [List.length_drop]; omega
    clear hp1 hr1 k1 e2 hp2 hr2 e3
    repeat walk_at "st"
    with_reducible refine w_seq ?_
    repeat walk_at "st"
    refine w_ite (fun h1 => ?_) (fun h1 => ?_)
    · repeat walk_at "st"
      refine w_slL (SqL.of hr3) fun b1 hb1 => ?_
      rw [cut_to sl]
      have e4 := same_new (o := .lst ((ns.take s).map V.int)) hb1 (Same.refl H3)
      have h41 : upd H3 b1 (.lst ((ns.take s).map V.int)) b1 = _ := upd_same
      generalize upd H3 b1 (.lst ((ns.take s).map V.int)) = H4 at e4 h41 ⊢
      repeat walk_at "st"
      refine w_slL (SqL.of (e4 _ _ hr3)) fun b2 hb2 => ?_
      rw [es1, cut_from]
      have e5 := same_new (o := .lst ((ns.drop (s + 1)).map V.int)) hb2 (Same.refl H4)
      refine w_catI (e5 _ _ h41) upd_same (by have := lt s; have := ld (s + 1); omega) fun b3 hb3 => ?_
      have e6 := (e4.trans e5).trans (same_new (o := .lst ((ns.take s ++ ns.drop (s + 1)).map V.int)) hb3 (Same.refl _))
      exact k b3 _ _ (fun x o hx ho => e6 _ _ (k3 x o hx ho)) upd_same (good_cut0 s hg) ((hp3.same e6).mono (by omega))
    repeat walk_at "st"
    with_reducible refine w_seq ?_
    repeat walk_at "st"
    refine w_ite (fun h2 => ?_) (fun h2 => ?_)
    · repeat walk_at "st"
      refine w_slL (SqL.of hr3) fun b1 hb1 => ?_
      rw [cut_to sl]
      have e4 := same_new (o := .lst ((ns.take s).map V.int)) hb1 (Same.refl H3)
      have h41 : upd H3 b1 (.lst ((ns.take s).map V.int)) b1 = _ := upd_same
      generalize upd H3 b1 (.lst ((ns.take s).map V.int)) = H4 at e4 h41 ⊢
      have hp4 := hp3.same e4
      repeat walk_at "st"
      refine ⟨p, c, 4, _, rfl, by decide, by decide, hp4, by omega, fun v H5 v0 v1 e5 hp5 => ?_⟩
      have h51 := e5.ints hp4 h41
      have hr5 := e5.ints hp4 (e4 _ _ hr3)
      have k5 : Keep p H H5 := fun x o hx ho => e5 x o hx (e4 _ _ (k3 x o hx ho))
      repeat walk_at "st"
      refine ⟨by walk_at "len", fun b2 hb2 => ?_⟩
      have e6 := same_new (o := .lst [V.int (1 + v)]) hb2 (Same.refl H5)
      refine w_catI (ys := [1 + v]) (e6 _ _ h51) upd_same (by have := lt s; show _ + 1 ≤ _; omega) fun b3 hb3 => ?_
      have e7 := e6.trans (same_new (o := .lst ((ns.take s ++ [1 + v]).map V.int)) hb3 (Same.refl _))
      have h7 : upd (upd H5 b2 (.lst [V.int (1 + v)])) b3 (.lst ((ns.take s ++ [1 + v]).map V.int)) b3 = _ := upd_same
      generalize upd (upd H5 b2 (.lst [V.int (1 + v)])) b3 (.lst ((ns.take s ++ [1 + v]).map V.int)) = H7 at e7 h7 ⊢
      repeat walk_at "st"
      refine w_slL (SqL.of (e7 _ _ hr5)) fun b4 hb4 => ?_
      rw [cut_from]
      have e8 := same_new (o := .lst ((ns.drop s).map V.int)) hb4 (Same.refl H7)
      refine w_catI (e8 _ _ h7) upd_same (by have := lt s; have := ld s; rw [List.length_append]; show _ + 1 + _ ≤ _; omega) fun b5 hb5 => ?_
      have e9 := (e7.trans e8).trans (same_new (o := .lst ((ns.take s ++ [1 + v] ++ ns.drop s).map V.int)) hb5 (Same.refl _))
      exact k b5 _ _ (fun x o hx ho => e9 _ _ (k5 x o hx ho)) upd_same (good_cut1 s hg (by omega) (by omega)) ((hp5.same e9).mono (by omega))
    repeat walk_at "st"
    with_reducible refine w_seq ?_
    repeat walk_at "st"
    refine w_ite (fun h3 => ?_) (fun h3 => ?_)
    · repeat walk_at "st"
      refine w_slL (SqL.of hr3) fun b1 hb1 => ?_
      rw [cut_to sl]
      have e4 := same_new (o := .lst ((ns.take s).map V.int)) hb1 (Same.refl H3)
      have h41 : upd H3 b1 (.lst ((ns.take s).map V.int)) b1 = _ := upd_same
      generalize upd H3 b1 (.lst ((ns.take s).map V.int)) = H4 at e4 h41 ⊢
      have hr4 := e4 _ _ hr3
      repeat walk_at "st"
      refine ⟨r, _, rfl, SqL.of hr4, fun b2 hb2 => ?_⟩
      rw [es2, cut_mid sl]
      have e5 := same_new (o := .lst (((ns.drop s).take 2).map V.int)) hb2 (Same.refl H4)
      refine ⟨b2, _, rfl, SqL.of upd_same, fun b3 hb3 => ?_⟩
      rw [← List.map_reverse]
      have e6 := e5.trans (same_new (o := .lst (((ns.drop s).take 2).reverse.map V.int)) hb3 (Same.refl _))
      have l2 : (((ns.drop s).take 2).reverse).length ≤ ns.length := by rw [List.length_reverse, List.length_take, List.length_drop]; omega
      refine w_catI (e6 _ _ h41) upd_same (by have := lt s; omega) fun b4 hb4 => ?_
      have e7 := e6.trans (same_new (o := .lst ((ns.take s ++ ((ns.drop s).take 2).reverse).map V.int)) hb4 (Same.refl _))
      have h7 : upd (upd (upd H4 b2 (.lst (((ns.drop s).take 2).map V.int))) b3 (.lst (((ns.drop s).take 2).reverse.map V.int))) b4 (.lst ((ns.take s ++ ((ns.drop s).take 2).reverse).map V.int)) b4 = _ := upd_same
      generalize upd (upd (upd H4 b2 (.lst (((ns.drop s).take 2).map V.int))) b3 (.lst (((ns.drop s).take 2).reverse.map V.int))) b4 (.lst ((ns.take s ++ ((ns.drop s).take 2).reverse).map V.int)) = H7 at e7 h7 ⊢
      repeat walk_at "st"
      refine w_slL (SqL.of (e7 _ _ hr4)) fun b5 hb5 => ?_
      rw [es2, cut_from]
      have e8 := same_new (o := .lst ((ns.drop (s + 2)).map V.int)) hb5 (Same.refl H7)
      refine w_catI (e8 _ _ h7) upd_same (by have := lt s; have := ld (s + 2); rw [List.length_append]; omega) fun b6 hb6 => ?_
      have e9 := ((e4.trans e7).trans e8).trans (same_new (o := .lst ((ns.take s ++ ((ns.drop s).take 2).reverse ++ ns.drop (s + 2)).map V.int)) hb6 (Same.refl _))
      exact k b6 _ _ (fun x o hx ho => e9 _ _ (k3 x o hx ho)) upd_same (good_cut2 s hg) ((hp3.same e9).mono (by omega))
    repeat walk_at "st"
    refine w_ite (fun h4 => ?_) (fun h4 => ?_)
    · repeat walk_at "st"
      refine ⟨r, _, rfl, SqL.of hr3, fun b1 hb1 => ?_⟩
      rw [← List.map_reverse]
      have e4 := same_new (o := .lst (ns.reverse.map V.int)) hb1 (Same.refl H3)
      exact k b1 _ _ (fun x o hx ho => e4 _ _ (k3 x o hx ho)) upd_same (good_perm (List.reverse_perm _) hg) ((hp3.same e4).mono (by omega))
    · repeat walk_at "st"
      refine lc_lstP (xs := ns.map V.int) (fun v => v) (fun t H4 => t = r ∧ H4 = H3) (fun R hR => ?_) (fun t H4 h => by rw [h.1, h.2]; exact SqL.of hr3) (by rw [List.length_map]; omega) (fun y hy H' R hR => ?_) fun t H4 D H5 h4 hD e5 hD5 => ?_
      · repeat walk_at "st"
        exact hR _ _ ⟨rfl, rfl⟩
      · obtain ⟨m, hm, rfl⟩ := List.mem_map.mp hy
        simp only [wipe, List.map, List.set]
        repeat walk_at "st"
        exact hR H' (Same.refl _)
      · rw [List.map_id'] at hD5
        rw [h4.2] at e5
        repeat walk_at "st"
        refine ⟨D, ns, rfl, SqL.of hD5, fun ns' b1 pe _ hb1 => ?_⟩
        have e6 := e5.trans (same_new (o := .lst (ns'.map V.int)) hb1 (Same.refl H5))
        exact k b1 _ _ (fun x o hx ho => e6 _ _ (k3 x o hx ho)) upd_same (good_perm pe hg) ((hp3.same e6).mono (by omega))
theorem d_law_counted_right (T : Txt K mg) (F : FD K mg "_law_counted_right" s_law_counted_right) (c_row_count : Dn P w K mg base 4 "row_count" s_row_count ["letters", "lengths"] (spRowCount K)) (c_law_product : Dn P w K mg base 1 "_law_product" s_law_product ["numbers"] (spLProduct)) (c_law_choices : Dn P w K mg base 1 "_law_choices" s_law_choices ["letters", "lengths"] (spLChoices K)) : Dn P w K mg base 5 "_law_counted_right" s_law_counted_right ["letters", "lengths"] (spLCounted K) := by
  refine dn_of F (fun _ _ _ _ _ _ us hl => match us, hl with | [_, _], _ => rfl) sc_law_counted_right (fun vs H Q E h => ?_) (fun fa cdv A outer s H vs Q E hr h => ?_)
  · obtain ⟨q, x, ns, rfl, _⟩ := h
    rfl
  · obtain ⟨q, x, ns, rfl, hx, ok, q1, q2, k⟩ := h
    have sz := sizeLine_eq
    refine ⟨_, PSs.nox (pss_cons (ps_par (i := 2) (j := 3) (by rfl) sc_law_counted_right.nd rfl rfl (by decide) rfl rfl (pa_cons (pe_d c_law_product hr (by decide) rfl (pa_cons (pe_d c_law_choices hr (by decide) rfl (pa_cons (pv 0) (pa_cons (pv 1) pa_nil))) pa_nil)) (pa_cons (pe_callTy cl_listOf (by rfl) T.n_list (by decide +kernel) (pa_cons (pv 1) pa_nil)) pa_nil)) (by rfl))
 (pss_cons (ps_set (i := 4) sc_law_counted_right.nd rfl (Or.inl rfl) (pe_d c_row_count hr (by decide) rfl (pa_cons (pv 0) (pa_cons (pv 1) pa_nil))))
 (pss_one (ps_ret (pe_and (pe_callB call_isi (by rfl) T.n_isinstance (by decide +kernel) (pa_cons (pv 4) (pa_cons (pe_bltn (v := .ty "int") (by rfl) T.n_int (by decide +kernel) rfl) pa_nil))) (pe_and (pe_cmpR op_eq (pv 4) (pv 2) (nomark _)) (pe_and (pe_cmpR op_eq (pe_dN0 c_row_count hr (by decide) rfl kw0 (pk_cons (pe_callTy cl_tupOf (by rfl) T.n_tuple (by decide +kernel) (pa_cons (pv 1) pa_nil)) (pk_cons (pv 0) pk_nil))) (pv 2) (nomark _)) (pe_one (pe_cmpR (op_eqD hr.units) (pe_callTy cl_listOf (by rfl) T.n_list (by decide +kernel) (pa_cons (pv 1) pa_nil)) (pv 3) (nomark _)))))))))), ?_⟩
    refine w_start (σ := [some (.int q), some x, none, none, none]) rfl ?_
    repeat walk_at "st"
    refine ⟨q, x, ns, rfl, hx, ok, q1, q2, fun a H1 e1 ha h1 => ?_⟩
    repeat walk_at "st"
    refine ⟨a, chs q ns, rfl, h1, chs_bound ok q1 q2, ?_⟩
    repeat walk_at "st"
    have hx1 := hx.same e1
    refine w_listSq hx1 fun b hb => ?_
    have e2 := same_new (o := .lst (ns.map V.int)) (same_free e1 hb) e1
    have hb2 : upd H1 b (.lst (ns.map V.int)) b = some (.lst (ns.map V.int)) := upd_same
    generalize upd H1 b (.lst (ns.map V.int)) = H2 at e2 hb2 ⊢
    repeat walk_at "st"
    refine ⟨q, x, ns, rfl, hx.same e2, ok, q1, q2, fun H3 e3 => ?_⟩
    repeat walk_at "st"
    refine w_isi (.int _) (k := true) (kit_ty (by decide +kernel)) ?_
    repeat walk_at "st"
    rw [decide_eq_true (rfl : V.int (prodO (chs q ns)) = V.int (prodO (chs q ns)))]
    repeat walk_at "st"
    refine w_tupSq (hx.same (e2.trans e3)) fun l H4 e4 hl => ?_
    repeat walk_at "st"
    refine ⟨rfl, rfl, q, .ref l, ns, rfl, ⟨l, rfl, .inr hl⟩, ok, q1, q2, fun H5 e5 => ?_⟩
    repeat walk_at "st"
    rw [decide_eq_true (rfl : V.int (prodO (chs q ns)) = V.int (prodO (chs q ns)))]
    repeat walk_at "st"
    have e6 : Same H2 H5 := (e3.trans e4).trans e5
    refine w_listSq (hx.same (e2.trans e6)) fun d hd => ?_
    repeat walk_at "st"
    refine w_eqInts upd_same (same_new hd (Same.refl H5) _ _ (e6 _ _ hb2)) ?_
    repeat walk_at "st"
    exact k _ ((e2.trans e6).trans (same_new hd (Same.refl H5)))
end

/-! ### the law -/
def spLaw (K : PySem.W.Frag) : Sp := fun vs H Q _ => ∃ (a : Addr) (ns : List Int), vs = [.ref a] ∧ SqL K H a (ns.map V.int) ∧ ∀ H', Q (.bl true) H'
theorem law_start {K : PySem.W.Frag} {H : Hp} {a : Addr} {ns : List Int} (hS : SqL K H a (ns.map V.int)) (hl : ns.length ≤ 63) : spLaw K [.ref a] H (fun v _ => v = .bl true) fun _ _ _ => False := ⟨a, ns, rfl, hS, fun _ => rfl⟩
def tupI (ns : List Int) : PyData := .tuple (ns.map PyData.int)
theorem tupI_shaped (ns : List Int) : SeqAt.shaped (tupI ns) = true := shaped_ints ns
theorem shown50 : ∀ i ∈ List.range 51, (PyData.shown (.int ((i : Nat) : Int))).length ≤ 13 := by decide +kernel
theorem tup_shows {ns : List Int} (h : ∀ n ∈ ns, 0 ≤ n ∧ n ≤ 50) (hl : ns.length ≤ 50) : (tupI ns).showable = true ∧ (tupI ns).hasDict = false ∧ (tupI ns).depth ≤ 60 ∧ (tupI ns).shown.length ≤ sizeLine := by
  have h1 : ∀ ns : List Int, (∀ n ∈ ns, 0 ≤ n ∧ n ≤ 50) → PyData.showableAll (ns.map PyData.int) = true := by
    intro ns
    induction ns with
    | nil => exact fun _ => rfl
    | cons n ns ih =>
      intro h
      rw [List.map_cons]
      show (PyData.showable (.int n) && PyData.showableAll (ns.map PyData.int)) = true
      rw [ih fun m hm => h m (List.mem_cons_of_mem _ hm), Bool.and_true]
      have := h n List.mem_cons_self
      exact decide_eq_true (PySem.Flt.log2_lt_of (by decide) (Nat.lt_of_le_of_lt (show n.natAbs ≤ 50 by omega) (by decide +kernel)))
  have h2 : ∀ ns : List Int, PyData.hasDictAll (ns.map PyData.int) = false := by
    intro ns
    induction ns with
    | nil => rfl
    | cons n ns ih => exact ih
  have h3 : ∀ ns : List Int, (∀ n ∈ ns, 0 ≤ n ∧ n ≤ 50) → PyData.intsShortAll 13 (ns.map PyData.int) = true := by
    intro ns
    induction ns with
    | nil => exact fun _ => rfl
    | cons n ns ih =>
      intro h
      rw [List.map_cons]
      show (PyData.intsShort 13 (.int n) && PyData.intsShortAll 13 (ns.map PyData.int)) = true
      rw [ih fun m hm => h m (List.mem_cons_of_mem _ hm), Bool.and_true]
      have hn := h n List.mem_cons_self
      have := shown50 n.toNat (List.mem_range.mpr (by omega))
      rw [Int.toNat_of_nonneg hn.1] at this
      exact decide_eq_true this
  have h4 : ∀ ns : List Int, (∀ n ∈ ns, 0 ≤ n ∧ n ≤ 50) → PyData.weightAll (ns.map PyData.int) ≤ 10 * ns.length := by
    intro ns
    induction ns with
    | nil => exact fun _ => Nat.le_refl _
    | cons n ns ih =>
      intro h
      rw [List.map_cons, List.length_cons]
      show PyData.weight (.int n) + 1 + PyData.weightAll (ns.map PyData.int) ≤ _
      have i := ih fun m hm => h m (List.mem_cons_of_mem _ hm)
      have hn := h n List.mem_cons_self
      have w : PyData.weight (.int n) ≤ 7 := by
        show (if n == 0 then 0 else n.natAbs.log2 + 1) ≤ 7
        split
        · omega
        · have : n.natAbs.log2 < 7 := PySem.Flt.log2_lt_of (by decide) (Nat.lt_of_le_of_lt (show n.natAbs ≤ 50 by omega) (by decide +kernel))
          omega
      omega
  refine ⟨h1 ns h, h2 ns, ?_, ?_⟩
  · have := tupI_shaped ns
    unfold SeqAt.shaped at this
    rw [Bool.and_eq_true] at this
    have e := of_decide_eq_true this.2
    have d := depth_ints ns
    show PyData.depthAll (ns.map PyData.int) + 1 ≤ 60
    omega
  · have hc : (tupI ns).canLay0 = true := canLay_ints ns
    have h5 := PyData.shown_le 13 (by decide) (tupI ns) (PyData.leavesShort_of_canLay0 13 _ hc (h3 ns h))
    have h6 : (tupI ns).weight ≤ 10 * ns.length := h4 ns h
    have := sizeLine_eq
    omega
theorem w_neD {K : PySem.W.Frag} {H : Hp} {Q : VK} {x y : V} {d e : PyData} {b : Bool} (hd : Dp K H x d) (he : Dp K H y e) (sd : SeqAt.shaped d = true) (se : SeqAt.shaped e = true) (h : PyData.eqv d e = b) (q : Q (.bl (!b)) H) : rNeD K x y H Q := ⟨d, e, hd, he, sd, se, by rw [h]; exact q⟩
theorem lc_rng2 {σ : L2.St} {Q : VK} {k : Nat} {te : TE} {vs : List Nat} {H : Hp} {ta : TA} (lo : Int) (n : Nat) (f : Nat → V) (hs : ∀ R : List V → Hp → Prop, R [.int lo, .int (lo + n)] H → ta σ H R) (hl : n ≤ sizeLine) (hb : -1000 ≤ lo ∧ lo ≤ 1000)
    (hel : ∀ i, i < n → ∀ H', Same H H' → ∀ R : VK, (∀ H'', Same H' H'' → R (f i) H'') → te ((wipe σ vs).set k (some (.int (lo + (i : Int))))) H' R)
    (q : ∀ D H', H D = none → Same H H' → H' D = some (.lst ((List.range n).map f)) → Q (.ref D) H') (hw : ∀ v, wipe ((wipe σ vs).set k (some v)) vs = wipe σ vs := by intro _; rfl) :
    tLc (iRng2 ta) (gName k) tYes te vs σ H Q := by
  have h1 : (n : Int) ≤ 16777216 := by
    have := sizeLine_eq
    omega
  refine hs _ ⟨lo, lo + n, rfl, ⟨by omega, by omega, by omega, by omega⟩, ?_⟩
  rw [show (lo + (n : Int) - lo).toNat = n by omega]
  exact lcI_rng f hl hel q hw
theorem sum_le4 : ∀ ds : List Int, (∀ d ∈ ds, 1 ≤ d ∧ d ≤ 4) → ds.sum ≤ 4 * (ds.length : Nat)
  | [], _ => by simp
  | d :: ds, h => by
    have ih := sum_le4 ds fun x hx => h x (List.mem_cons_of_mem _ hx)
    have := h d List.mem_cons_self
    rw [List.sum_cons, List.length_cons]
    omega
def S90 : List Int := (List.range 89).map fun i => 1 + ((i : Nat) : Int)
theorem ok90 : IntsOk S90 := ⟨by decide +kernel, by decide +kernel, by decide +kernel⟩
theorem ok89 : IntsOk (S90.take 88) := ⟨by decide +kernel, by decide +kernel, by decide +kernel⟩
theorem eq90 : V.int (prodO (chs 2 S90)) = V.int (2 * prodO (chs 2 (S90.take 88))) := by decide +kernel
theorem cut90 : cutV (S90.map V.int) none (some (-1)) = (S90.take 88).map V.int := by decide +kernel
theorem dp_tupI {K : PySem.W.Frag} {H : Hp} {a : Addr} {ns : List Int} (h : H a = some (.tup (ns.map V.int))) : Dp K H (.ref a) (tupI ns) := .tup (SqT.of h) (dpAll_ints ns)
theorem lens_row (L : List Wd) : (L.map fun w => V.int (w.length : Nat)) = (lens L).map V.int := by
  unfold lens
  rw [List.map_map]
  rfl
theorem steps_ne (q : Nat) : ∀ (f : Nat) (st : Shf) (r : Wd), ([] : Wd) ∈ st.ws → ∀ x ∈ stepsF (tS q) f st r, 1 ≤ (rowW (tS q) x).length
  | 0, _, _, _, x, h => nomatch h
  | f + 1, ⟨L, g⟩, r, h0, x, h => by
    obtain ⟨t1, t2, t3⟩ := step_told q L g r h0
    by_cases hrn : r = []
    · rw [hrn, steps_nil] at h
      cases h
    have rp : 0 < r.length := List.length_pos_iff.mpr hrn
    have e1 : stepsF (tS q) (f + 1) ⟨L, g⟩ r = (step1 (tS q) ⟨L, g⟩ r).1 :: stepsF (tS q) f (step1 (tS q) ⟨L, g⟩ r).2.1 (step1 (tS q) ⟨L, g⟩ r).2.2 := by
      show (if r = [] then [] else _) = _
      rw [if_neg hrn]
    rw [e1] at h
    rcases List.mem_cons.mp h with rfl | h
    · rw [t1, List.length_take]
      omega
    · refine steps_ne q f _ _ ?_ x h
      rw [t2]
      unfold addW
      split
      · exact h0
      · exact List.mem_append_left _ h0
theorem lens_sum : ∀ L : List Wd, (lens L).sum = (L.flatten.length : Nat)
  | [] => rfl
  | w :: L => by
    have ih := lens_sum L
    unfold lens at ih ⊢
    rw [List.map_cons, List.sum_cons, ih, List.flatten_cons, List.length_append]
    omega
theorem lens_good {q : Nat} {l : Wd} (hl : l.length ≤ 50) : Good (lens (rowOf (tS q) l)) 50 ∧ (lens (rowOf (tS q) l)).length ≤ 50 ∧ ∀ n ∈ lens (rowOf (tS q) l), 0 ≤ n ∧ n ≤ 50 := by
  have h1 : ∀ n ∈ lens (rowOf (tS q) l), 1 ≤ n := by
    intro n hn
    obtain ⟨w, hw, rfl⟩ := List.mem_map.mp hn
    obtain ⟨x, hx, rfl⟩ := List.mem_map.mp hw
    have := steps_ne q l.length ⟨firstW (tS q), 0⟩ l List.mem_cons_self x hx
    omega
  have h2 : (lens (rowOf (tS q) l)).sum ≤ 50 := by
    rw [lens_sum, row_join]
    omega
  obtain ⟨h3, h4⟩ := good_le h1
  exact ⟨⟨h1, h2⟩, by omega, fun n hn => ⟨by have := h1 n hn; omega, by have := h4 n hn; omega⟩⟩
set_option hygiene false in
local macro_rules | `(tactic| walk_at "st") => `(tactic| first
  | ((with_reducible refine' w_aug ?h ?_); (case h => exact rfl))
  | (with_reducible first | refine w_bm ?_ | refine w_fldAug ?_ | refine w_seqU ?_ | refine w_enumL ?_)
  | ((with_reducible refine' w_tyL ?h ?_); (case h => walk_at "hp"))
  | ((with_reducible refine' w_enumLAt ?h ?_); (case h => walk_at "hp")))

set_option hygiene false in
local macro_rules | `(tactic| walk_at "st") => `(tactic| (with_reducible first | refine w_revL ?_ | refine w_seqP3 ?_ | refine w_par3 ?_ | refine w_three ?_ | refine w_pc ?_ | refine w_pn ?_ | refine w_dget2 ?_ | refine w_bm ?_))
section
variable {P : Program} {w : World} {K : PySem.W.Frag} {mg : Str → Option Value} {base : Heap}
theorem law_ok {f : Addr} {fd : FuncData} (T : Txt K mg) (F : FunD K "law" "law" (defArgs s_law) (defBody s_law) (defScope s_law) [] [] f fd) (c_law_pen : Dn P w K mg base 1 "_law_pen" s_law_pen ["script"] (spPen K)) (c_law_pick : Dn P w K mg base 2 "_law_pick" s_law_pick ["pen", "some"] (spPick K)) (c_law_text : Dn P w K mg base 3 "_law_text" s_law_text ["pen", "letters", "most"] (spLText)) (c_law_lengths : Dn P w K mg base 2 "_law_lengths" s_law_lengths ["text"] (spLLengths)) (c_law_bent : Dn P w K mg base 2 "_law_bent" s_law_bent ["pen", "lengths"] (spLBent K)) (c_law_counted_right : Dn P w K mg base 5 "_law_counted_right" s_law_counted_right ["letters", "lengths"] (spLCounted K)) (c_row_count : Dn P w K mg base 4 "row_count" s_row_count ["letters", "lengths"] (spRowCount K)) (c_lengths_of : Dn P w K mg base 14 "lengths_of" s_lengths_of ["letters", "text"] (spLengthsOf K)) (c_law_draw : Dn P w K mg base 1 "_law_draw" s_law_draw ["pen", "many"] (spDraw)) : FnG P w K mg base CX0 15 f fd ["script"] (spLaw K) := by
  obtain ⟨oc, od, dV, kV, doc, pm, an, cdv, ct, osl, rfl, lk, hcd, _, _⟩ := F.ex
  refine fnG_of lk hcd sc_law (fun vs H Q E h => ?_) (fun A outer s H vs Q E hg hr h => ?_)
  · obtain ⟨a, ns, rfl, _⟩ := h
    rfl
  · obtain ⟨a, ns, rfl, hS, k⟩ := h
    have sz := sizeLine_eq
    refine ⟨_, PSs.nox (pss_cons (ps_set (i := 1) sc_law.nd rfl (Or.inr rfl) (pe_d c_law_pen hr (by decide) rfl (pa_cons (pv 0) pa_nil)))
 (pss_cons (ps_for PassesOwn.never rfl (pi_range1 rfl T.n_range (pa_cons pe_int pa_nil)) (pg_name (i := 2) sc_law.nd rfl (Or.inl rfl))
 (pss_cons (ps_set (i := 3) sc_law.nd rfl (Or.inl rfl) (pe_d c_law_pick hr (by decide) rfl (pa_cons (pv 1) (pa_cons (pe_lst (pa_cons pe_int (pa_cons pe_int (pa_cons pe_int (pa_cons pe_int (pa_cons pe_int (pa_cons pe_int pa_nil))))))) pa_nil))))
 (pss_cons (ps_set (i := 4) sc_law.nd rfl (Or.inl rfl) (pe_d c_law_text hr (by decide) rfl (pa_cons (pv 1) (pa_cons (pv 3) (pa_cons (pe_d c_law_pick hr (by decide) rfl (pa_cons (pv 1) (pa_cons (pe_lst (pa_cons pe_int (pa_cons pe_int (pa_cons pe_int pa_nil)))) pa_nil))) pa_nil)))))
 (pss_cons (ps_set (i := 5) sc_law.nd rfl (Or.inl rfl) (pe_d c_law_lengths hr (by decide) rfl (pa_cons (pv 4) pa_nil)))
 (pss_cons (ps_if (PW.pt (pw_or (pt_cmpR op_ne (pe_callB (cl_reprD hg hr.units) (by rfl) T.n_repr (by decide +kernel) (pa_cons (pe_d c_lengths_of hr (by decide) rfl (pa_cons (pv 3) (pa_cons (pv 4) pa_nil))) pa_nil)) (pe_callB (cl_reprD hg hr.units) (by rfl) T.n_repr (by decide +kernel) (pa_cons (pv 5) pa_nil)) (nomark _)) (pw_or1 (pt_cmpR (op_neD hr.units) (pe_dN0 c_lengths_of hr (by decide) rfl kw1 (pk_cons (pv 4) (pk_cons (pv 3) pk_nil))) (pv 5) (nomark _)))))
 (pss_one (ps_ret pe_bl))
 pss_nil)
 (pss_cons (ps_if (PW.pt (pw_or (pt_cmpR op_lt (pe_d c_row_count hr (by decide) rfl (pa_cons (pv 3) (pa_cons (pv 5) pa_nil))) pe_int (nomark _)) (pw_or1 (pt_not (pt_val (pe_d c_law_counted_right hr (by decide) rfl (pa_cons (pv 3) (pa_cons (pv 5) pa_nil))) (by intro _; rfl))))))
 (pss_one (ps_ret pe_bl))
 pss_nil)
 (pss_cons (ps_set (i := 6) sc_law.nd rfl (Or.inl rfl) (pe_callTy cl_listOf (by rfl) T.n_list (by decide +kernel) (pa_cons (pv 5) pa_nil)))
 (pss_cons (ps_for PassesOwn.never rfl (pi_range1 rfl T.n_range (pa_cons pe_int pa_nil)) (pg_name (i := 7) sc_law.nd rfl (Or.inl rfl))
 (pss_cons (ps_set (i := 6) sc_law.nd rfl (Or.inl rfl) (pe_d c_law_bent hr (by decide) rfl (pa_cons (pv 1) (pa_cons (pv 6) pa_nil))))
 (pss_one (ps_if (pt_not (pt_val (pe_d c_law_counted_right hr (by decide) rfl (pa_cons (pv 3) (pa_cons (pe_callTy cl_listOf (by rfl) T.n_list (by decide +kernel) (pa_cons (pv 6) pa_nil)) pa_nil))) (by intro _; rfl)))
 (pss_one (ps_ret pe_bl))
 pss_nil))))
 (pss_cons (ps_setLc (i := 8) (own := [("turn", 7)]) (tt := tYes) (g := gName 7) rfl sc_law.nd rfl rfl (sw_true rfl rfl rfl (by decide +kernel)) (pi_range1 rfl T.n_range (pa_cons (pe_d c_law_draw hr (by decide) rfl (pa_cons (pv 1) (pa_cons pe_int pa_nil))) pa_nil)) (blkOk_by (N := ["script", "pen", "lap", "letters", "text", "due", "some", "turn", "drawn", "stairs", "length"]) (sc := defScope s_law) (by decide +kernel)) (fun _ _ _ _ _ => (pg_name (i := 7) sc_law.nd rfl (Or.inl rfl))) (fun _ _ _ _ _ => pts_nil) (fun _ _ _ _ _ => (pe_op op_add pe_int (pe_d c_law_draw hr (by decide) rfl (pa_cons (pv 1) (pa_cons (pe_op op_add pe_int (pe_d c_law_draw hr (by decide) rfl (pa_cons (pv 1) (pa_cons pe_int pa_nil)))) pa_nil))))))
 (pss_one (ps_if (pt_not (pt_val (pe_d c_law_counted_right hr (by decide) rfl (pa_cons (pv 3) (pa_cons (pv 8) pa_nil))) (by intro _; rfl)))
 (pss_one (ps_ret pe_bl))
 pss_nil)))))))))))
 (pss_cons (ps_setLc (i := 9) (own := [("length", 10)]) (tt := tYes) (g := gName 10) rfl sc_law.nd rfl rfl (sw_true rfl rfl rfl (by decide +kernel)) (pi_range2 rfl T.n_range (pa_cons pe_int (pa_cons pe_int pa_nil))) (blkOk_by (N := ["script", "pen", "lap", "letters", "text", "due", "some", "turn", "drawn", "stairs", "length"]) (sc := defScope s_law) (by decide +kernel)) (fun _ _ _ _ _ => (pg_name (i := 10) sc_law.nd rfl (Or.inl rfl))) (fun _ _ _ _ _ => pts_nil) (fun _ _ _ _ _ => (pv 10)))
 (pss_one (ps_ret (pe_and (pe_cmpR op_eq (pe_d c_row_count hr (by decide) rfl (pa_cons pe_int (pa_cons (pv 9) pa_nil))) (pe_op op_mulA pe_int (pe_d c_row_count hr (by decide) rfl (pa_cons pe_int (pa_cons (pe_slice sl_list (pv 9) po_none (po_some (pe_un un_neg pe_int))) pa_nil)))) (nomark _)) (pe_and (pe_cmpR op_eq (pe_d c_row_count hr (by decide) rfl (pa_cons pe_int (pa_cons (pe_tup pa_nil) pa_nil))) pe_int (nomark _)) (pe_one (pe_cmpR op_eq (pe_d c_row_count hr (by decide) rfl (pa_cons pe_int (pa_cons (pe_lst (pa_cons pe_int pa_nil)) pa_nil))) pe_int (nomark _)))))))))), ?_⟩
    refine w_start (σ := [some (.ref a), none, none, none, none, none, none, none, none, none, none]) rfl ?_
    repeat walk_at "st"
    refine ⟨a, ns, rfl, hS, fun p c H1 p0 s1 hp1 => ?_⟩
    repeat walk_at "st"
    with_reducible refine w_seq ?_
    repeat walk_at "st"
    refine L2.for_range (fun i σ' H' => ∃ o2 o3 o4 o5 o6 o7 o8 o9 o10, σ' = [some (.ref a), some (.ref p), o2, o3, o4, o5, o6, o7, o8, o9, o10] ∧ PenB H' p c (200 * i)) ⟨none, none, none, none, none, none, none, none, none, rfl, by simpa using hp1⟩ ?_ ?_
    · rintro i σ' H2 hi ⟨o2, o3, o4, o5, o6, o7, o8, o9, o10, rfl, hp2⟩
      have hi6 : i < 6 := hi
      repeat walk_at "st"
      refine ⟨by walk_at "len", fun u1 hu1 => ?_⟩
      repeat walk_at "st"
      refine pick_new hu1 hp2 (by omega) (by decide) (by decide) fun v H3 hv e3 hp3 => ?_
      obtain ⟨q, hq, rfl⟩ := pick_ints (ns := [2, 2, 2, 3, 5, 26]) hv
      have hq2 : 2 ≤ q ∧ q ≤ 26 := by
        simp only [List.mem_cons, List.not_mem_nil, or_false] at hq
        omega
      obtain ⟨q, rfl⟩ : ∃ n : Nat, q = n := ⟨q.toNat, by omega⟩
      clear hv hq e3 hp2 hu1
      repeat walk_at "st"
      refine ⟨by walk_at "len", fun u2 hu2 => ?_⟩
      repeat walk_at "st"
      refine pick_new hu2 hp3 (by omega) (by decide) (by decide) fun v H4 hv e4 hp4 => ?_
      obtain ⟨most, hm, rfl⟩ := pick_ints (ns := [5, 20, 50]) hv
      have hm2 : 5 ≤ most ∧ most ≤ 50 := by
        simp only [List.mem_cons, List.not_mem_nil, or_false] at hm
        omega
      clear hv hm e4 hp3 hu2
      repeat walk_at "st"
      refine ⟨p, c, q, most, _, rfl, by omega, by omega, by omega, by omega, hp4, by omega, fun l H5 hl ln e5 hp5 => ?_⟩
      rw [Int.toNat_natCast] at hl
      have l50 : l.length ≤ 50 := by omega
      clear e5 hp4
      repeat walk_at "st"
      refine ⟨q, l, rfl, by omega, fun due H6 e6 due0 hdue => ?_⟩
      rw [lens_row] at hdue
      obtain ⟨hg, hlen, h50⟩ := lens_good (q := q) l50
      obtain ⟨sh1, sh2, sh3, sh4⟩ := tup_shows h50 hlen
      have hpos := row_counted (q := q) (by omega) hl
      obtain ⟨ns, ens⟩ : ∃ ns, ns = lens (rowOf (tS q) l) := ⟨_, rfl⟩
      have hrow : ((rowOf ⟨false, q, .free, 0⟩ l).map fun w => V.int (w.length : Nat)) = ns.map V.int := by rw [ens]; exact lens_row _
      rw [← ens] at hdue hg hlen h50 sh1 sh2 sh3 sh4 hpos
      clear ens
      have ok : IntsOk ns := ok_good hg (by decide)
      have hp6 := hp5.same e6
      clear hp5 e6
      repeat walk_at "st"
      with_reducible refine w_seq ?_
      repeat walk_at "st"
      refine ⟨q, l, rfl, by omega, by omega, by omega, hl, fun t1 H7 e7 t10 ht1 => ?_⟩
      rw [hrow] at ht1
      have hd7 := e7 _ _ hdue
      repeat walk_at "st"
      refine ⟨t1, tupI ns, rfl, dp_tupI ht1, sh1, sh2, sh3, sh4, ?_⟩
      repeat walk_at "st"
      refine ⟨due, tupI ns, rfl, dp_tupI hd7, sh1, sh2, sh3, sh4, ?_⟩
      repeat walk_at "st"
      rw [decide_eq_true (rfl : V.str (tupI ns).shown = V.str (tupI ns).shown)]
      repeat walk_at "st"
      refine ⟨rfl, rfl, q, l, rfl, by omega, by omega, by omega, hl, fun t2 H8 e8 t20 ht2 => ?_⟩
      rw [hrow] at ht2
      repeat walk_at "st"
      refine w_neD (dp_tupI ht2) (dp_tupI (e8 _ _ hd7)) (tupI_shaped ns) (tupI_shaped ns) (SeqAt.eqv_refl _ (canLay_ints ns)) ?_
      repeat walk_at "st"
      have hd8 := e8 _ _ hd7
      have hp8 := (hp6.same e7).same e8
      clear ht1 ht2 hd7 hdue e7 e8 hp6
      with_reducible refine w_seq ?_
      repeat walk_at "st"
      refine ⟨(q : Int), .ref due, ns, rfl, ⟨due, rfl, .inr hd8⟩, ok, by omega, by omega, fun H9 e9 => ?_⟩
      repeat walk_at "st"
      rw [decide_eq_false (by omega : ¬ prodO (chs q ns) < 1)]
      repeat walk_at "st"
      have hd9 := e9 _ _ hd8
      refine ⟨(q : Int), .ref due, ns, rfl, ⟨due, rfl, .inr hd9⟩, ok, by omega, by omega, fun HA eA => ?_⟩
      repeat walk_at "st"
      have hdA := eA _ _ hd9
      have hpA := (hp8.same e9).same eA
      clear hd8 hd9 e9 eA hp8
      refine w_listSq ⟨due, rfl, .inr hdA⟩ fun s1 hs1 => ?_
      have hpB := hpA.new (o := .lst (ns.map V.int)) hs1
      have hsB : upd HA s1 (.lst (ns.map V.int)) s1 = some (.lst (ns.map V.int)) := upd_same
      generalize upd HA s1 (.lst (ns.map V.int)) = HB at hpB hsB ⊢
      clear hpA hs1 hdA
      repeat walk_at "st"
      with_reducible refine w_seq ?_
      repeat walk_at "st"
      refine L2.for_range (fun j σ' H' => ∃ (o7 : Option V) (D : Addr) (ms : List Int), σ' = [some (.ref a), some (.ref p), some (.int (0 + (i : Int))), some (.int (q : Nat)), some (.str (SX.S l)), some (.ref due), some (.ref D), o7, o8, o9, o10] ∧ H' D = some (.lst (ms.map V.int)) ∧ Good ms (50 + 4 * j) ∧ PenB H' p c (200 * i + 100 + 3 * j)) ⟨o7, s1, ns, rfl, hsB, by simpa using hg, hpB.mono (by omega)⟩ ?_ ?_
      · rintro j σ' H' hj ⟨o7, D, ms, rfl, hD, gm, hpD⟩
        have hj6 : j < 6 := hj
        repeat walk_at "st"
        refine ⟨p, c, D, ms, _, _, rfl, hD, gm, by omega, hpD, by omega, fun D' ms' H3 e3 hD' gm' hp3 => ?_⟩
        repeat walk_at "st"
        refine w_listSq ⟨D', rfl, .inl hD'⟩ fun b hb => ?_
        repeat walk_at "st"
        refine ⟨(q : Int), .ref b, ms', rfl, ⟨b, rfl, .inl upd_same⟩, ok_good gm' (by omega), by omega, by omega, fun H4 e4 => ?_⟩
        repeat walk_at "st"
        have e5 := (same_new (o := .lst (ms'.map V.int)) hb (Same.refl H3)).trans e4
        exact ⟨_, D', ms', rfl, e5 _ _ hD', ⟨gm'.1, by have := gm'.2; omega⟩, (hp3.same e5).mono (by omega)⟩
      · rintro σ' H' ⟨o7, D, ms, rfl, hD, gm, hpD⟩
        repeat walk_at "st"
        refine w_lc ?_
        repeat walk_at "st"
        refine ⟨p, c, 12, _, rfl, by decide, by decide, hpD, by omega, fun many H3 m0 m1 e3 hp3 => ?_⟩
        repeat walk_at "st"
        intro B hB
        have hBp : B ≠ p := hp3.free hB
        have hBc : B ≠ c := hp3.freeC hB
        refine L2.lc_range (fun j H' => ∃ ds : List Int, ds.length = j ∧ (∀ d ∈ ds, 1 ≤ d ∧ d ≤ 4) ∧ H' B = some (.lst (ds.map V.int)) ∧ PenB H' p c (200 * i + 120 + 2 * j)) ?_ ?_ ?_
        · exact ⟨[], rfl, fun c hc => (nomatch hc), upd_same, (hp3.new hB).mono (by omega)⟩
        · rintro j H5 hj ⟨ds, hl5, hds, h5, hp5⟩
          simp only [wipe, List.map, List.set]
          repeat walk_at "st"
          refine ⟨rfl, ?_⟩
          simp only [tYes, if_true]
          repeat walk_at "st"
          refine ⟨p, c, 4, _, rfl, by decide, by decide, hp5, by omega, fun d1 H6 a0 a1 e6 hp6 => ?_⟩
          repeat walk_at "st"
          refine ⟨p, c, 1 + d1, _, rfl, by omega, log2_int (by omega) (by omega), hp6, by omega, fun d2 H7 b0 b1 e7 hp7 => ?_⟩
          repeat walk_at "st"
          refine ⟨ds.map V.int, e7 _ _ hBp (e6 _ _ hBp h5), by rw [List.length_map]; omega, ds ++ [1 + d2], by rw [List.length_append, hl5]; rfl, fun x hx => ?_, ?_, (hp7.upd' hBp hBc).mono (by omega)⟩
          · rcases List.mem_append.mp hx with hx | hx
            · exact hds x hx
            · rw [List.mem_singleton.mp hx]
              omega
          · rw [upd_same, List.map_append]
            rfl
        · rintro H5 ⟨ds, hl5, hds, h5, hp5⟩
          repeat walk_at "st"
          have := sum_le4 ds hds
          refine ⟨(q : Int), .ref B, ds, rfl, ⟨B, rfl, .inl h5⟩, ok_good (M := 100) ⟨fun d hd => (hds d hd).1, by omega⟩ (by decide), by omega, by omega, fun H6 e6 => ?_⟩
          repeat walk_at "st"
          exact ⟨_, _, _, _, _, _, _, _, _, rfl, (hp5.same e6).mono (by omega)⟩
    · rintro σ' H2 ⟨o2, o3, o4, o5, o6, o7, o8, o9, o10, rfl, hp2⟩
      repeat walk_at "st"
      refine lc_rng2 (k := 10) (vs := [10]) (σ := [some (.ref a), some (.ref p), o2, o3, o4, o5, o6, o7, o8, o9, o10]) 1 89 (fun i => .int (1 + (i : Int))) (fun R hR => ?_) (by omega) (by decide) (fun j hj H' e R hR => ?_) fun D H3 hD e3 hD3 => ?_
      · repeat walk_at "st"
        exact hR
      · simp only [wipe, List.map, List.set]
        repeat walk_at "st"
        exact hR H' (Same.refl _)
      · obtain ⟨L9, e9⟩ : ∃ L, L = S90 := ⟨_, rfl⟩
        have hD4 : H3 D = some (.lst (L9.map V.int)) := by
          rw [hD3, e9]
          unfold S90
          rw [List.map_map]
          rfl
        have g1 : IntsOk L9 := by rw [e9]; exact ok90
        have g2 : IntsOk (L9.take 88) := by rw [e9]; exact ok89
        have g3 : V.int (prodO (chs 2 L9)) = V.int (2 * prodO (chs 2 (L9.take 88))) := by rw [e9]; exact eq90
        have g4 : cutV (L9.map V.int) none (some (-1)) = (L9.take 88).map V.int := by rw [e9]; exact cut90
        obtain ⟨z1, ez1⟩ : ∃ z, z = prodO (chs 26 []) := ⟨_, rfl⟩
        obtain ⟨z2, ez2⟩ : ∃ z, z = prodO (chs 3 [5000]) := ⟨_, rfl⟩
        have g5 : V.int z1 = V.int 1 := by rw [ez1]; decide +kernel
        have g6 : V.int z2 = V.int 0 := by rw [ez2]; decide +kernel
        clear e9
        repeat walk_at "st"
        refine ⟨2, .ref D, L9, rfl, ⟨D, rfl, .inl hD4⟩, g1, by decide, by decide, fun H5 e5 => ?_⟩
        repeat walk_at "st"
        refine w_slL (SqL.of (e5 _ _ hD4)) fun b1 hb1 => ?_
        rw [g4]
        repeat walk_at "st"
        refine ⟨2, .ref b1, L9.take 88, rfl, ⟨b1, rfl, .inl upd_same⟩, g2, by decide, by decide, fun H6 e6 => ?_⟩
        obtain ⟨y1, ey1⟩ : ∃ y, y = prodO (chs 2 L9) := ⟨_, rfl⟩
        obtain ⟨y2, ey2⟩ : ∃ y, y = prodO (chs 2 (L9.take 88)) := ⟨_, rfl⟩
        rw [← ey1, ← ey2] at g3
        rw [← ey1, ← ey2]
        repeat walk_at "st"
        rw [decide_eq_true g3]
        repeat walk_at "st"
        refine ⟨by walk_at "len", fun b2 hb2 => ?_⟩
        repeat walk_at "st"
        refine ⟨26, .ref b2, [], rfl, ⟨b2, rfl, .inr upd_same⟩, ⟨by decide, by decide, by decide⟩, by decide, by decide, fun H7 e7 => ?_⟩
        rw [← ez1]
        repeat walk_at "st"
        rw [decide_eq_true g5]
        repeat walk_at "st"
        refine ⟨by walk_at "len", fun b3 hb3 => ?_⟩
        repeat walk_at "st"
        refine ⟨3, .ref b3, [5000], rfl, ⟨b3, rfl, .inl upd_same⟩, ⟨by decide, by decide, by decide⟩, by decide, by decide, fun H8 e8 => ?_⟩
        rw [← ez2]
        repeat walk_at "st"
        rw [decide_eq_true g6]
        exact k _
end

theorem facts {P : Program} {w : World} {K : PySem.W.Frag} {h : Heap} {mg : Str → Option Value} {f : Addr} (X : K.In h) (G : h.Ns mainGlobals mg) (hfa : mg ("law" : Str) = some (.ref f)) (c : GSays gfs gds K) :
    ∃ fd : FuncData, (∀ (s : Shared) (v : Value), BindsTo s fd ⟨[v], []⟩ [("script", v)]) ∧ ∀ base : Heap, K.In base → base.Ns mainGlobals mg → FnG P w K mg base CX0 15 f fd ["script"] (spLaw K) := by
  have T : Txt K mg := ⟨He.free_ok X G (c.fact 23),
    He.free_ok X G (c.fact 24),
    He.free_ok X G (c.fact 25),
    He.free_ok X G (c.fact 26),
    He.free_ok X G (c.fact 27),
    He.free_ok X G (c.fact 28),
    He.free_ok X G (c.fact 29),
    He.free_ok X G (c.fact 30),
    He.free_ok X G (c.fact 31),
    He.free_ok X G (c.fact 32),
    He.free_ok X G (c.fact 33),
    He.free_ok X G (c.fact 34),
    He.free_ok X G (c.fact 35),
    He.free_ok X G (c.fact 36),
    glob_i (He.int_ok X G (c.fact 37)),
    glob_i (He.int_ok X G (c.fact 38)),
    glob_i (He.int_ok X G (c.fact 39)),
    glob_s (He.str_ok X G (c.fact 40)),
    fun k => match k with | .free => He.cls_ok (c.fact 41) | .short => He.cls_ok (c.fact 42) | .cleared => He.cls_ok (c.fact 43) | .standing => He.cls_ok (c.fact 44),
    fun k => match k with | .free => He.noat_ok (c.fact 45) | .short => He.noat_ok (c.fact 46) | .cleared => He.noat_ok (c.fact 47) | .standing => He.noat_ok (c.fact 48),
    He.noat_ok (c.fact 49),
    He.noat_ok (c.fact 50),
    He.noat_ok (c.fact 51),
    fun k => match k with | .free => He.meth_ok (c.fact 52) | .short => He.meth_ok (c.fact 53) | .cleared => He.meth_ok (c.fact 54) | .standing => He.meth_ok (c.fact 55),
    fun k => match k with | .free => He.meth_ok (c.fact 56) | .short => He.meth_ok (c.fact 57) | .cleared => He.meth_ok (c.fact 58) | .standing => He.meth_ok (c.fact 59),
    fun k => match k with | .free => He.mkr_ok (c.fact 60) | .short => He.mkr_ok (c.fact 61) | .cleared => He.mkr_ok (c.fact 62) | .standing => He.mkr_ok (c.fact 63),
    fun k => match k with | .free => He.glo_ok X G (c.fact 64) | .short => He.glo_ok X G (c.fact 65) | .cleared => He.glo_ok X G (c.fact 66) | .standing => He.glo_ok X G (c.fact 67),
    fun k => match k with | .free => isa_ok (c.fact 68) | .short => isa_ok (c.fact 69) | .cleared => isa_ok (c.fact 70) | .standing => isa_ok (c.fact 71),
    He.glo_ok X G (c.fact 72),
    He.glo_ok X G (c.fact 73),
    clsCon_ok (c.fact 74),
    clsCon_ok (c.fact 75),
    fun h => match h with | true => He.cls_ok (c.fact 76) | false => He.cls_ok (c.fact 77),
    fun h => match h with | true => He.noat_ok (c.fact 78) | false => He.noat_ok (c.fact 79),
    fun h => match h with | true => He.noat_ok (c.fact 80) | false => He.noat_ok (c.fact 81),
    fun h => match h with | true => He.mkr_ok (c.fact 82) | false => He.mkr_ok (c.fact 83),
    He.glo_ok X G (c.fact 84),
    He.glo_ok X G (c.fact 85),
    fun h => match h with | true => He.conB_ok (c.fact 86) | false => He.conB_ok (c.fact 87),
    fun h => match h with | true => prop_ok (c.fact 88) | false => prop_ok (c.fact 89),
    He.cls_ok (c.fact 90),
    He.noat_ok (c.fact 91),
    He.noat_ok (c.fact 92),
    He.noat_ok (c.fact 93),
    He.noat_ok (c.fact 94),
    He.noat_ok (c.fact 95),
    He.meth_ok (c.fact 96),
    He.meth_ok (c.fact 97),
    He.meth_ok (c.fact 98),
    He.meth_ok (c.fact 99),
    He.mkr_ok (c.fact 100),
    He.glo_ok X G (c.fact 101)⟩
  have F_is_int : FD K mg "is_int" s_is_int := fd_of (c.at_ 0 (d := gd0) rfl) (He.glo_ok X G (c.fact 0))
  have F_need_text : FD K mg "need_text" s_need_text := fd_of (c.at_ 1 (d := gd1) rfl) (He.glo_ok X G (c.fact 1))
  have F_Free___init__ : FA K "__init__" "Free.__init__" s_Free___init__ [] (He.ma K (cLim K .free) "__init__") := c.at_ 2 (d := gd2) rfl
  have F_Shelf_longest_at : FA K "longest_at" "Shelf.longest_at" s_Shelf_longest_at [] (He.ma K (cShelf K) "longest_at") := c.at_ 3 (d := gd3) rfl
  have F_choices_for : FD K mg "choices_for" s_choices_for := fd_of (c.at_ 4 (d := gd4) rfl) (He.glo_ok X G (c.fact 2))
  have F_product_of : FD K mg "product_of" s_product_of := fd_of (c.at_ 5 (d := gd5) rfl) (He.glo_ok X G (c.fact 3))
  have F_law_pen : FD K mg "_law_pen" s_law_pen := fd_of (c.at_ 6 (d := gd6) rfl) (He.glo_ok X G (c.fact 4))
  have F_law_draw : FD K mg "_law_draw" s_law_draw := fd_of (c.at_ 7 (d := gd7) rfl) (He.glo_ok X G (c.fact 5))
  have F_law_row : FD K mg "_law_row" s_law_row := fd_of (c.at_ 8 (d := gd8) rfl) (He.glo_ok X G (c.fact 6))
  have F_law_choices : FD K mg "_law_choices" s_law_choices := fd_of (c.at_ 9 (d := gd9) rfl) (He.glo_ok X G (c.fact 7))
  have F_law_product : FD K mg "_law_product" s_law_product := fd_of (c.at_ 10 (d := gd10) rfl) (He.glo_ok X G (c.fact 8))
  have F_is_between : FD K mg "is_between" s_is_between := fd_of (c.at_ 11 (d := gd11) rfl) (He.glo_ok X G (c.fact 9))
  have F_law_pick : FD K mg "_law_pick" s_law_pick := fd_of (c.at_ 12 (d := gd12) rfl) (He.glo_ok X G (c.fact 10))
  have F_law_lengths : FD K mg "_law_lengths" s_law_lengths := fd_of (c.at_ 13 (d := gd13) rfl) (He.glo_ok X G (c.fact 11))
  have F_law_bent : FD K mg "_law_bent" s_law_bent := fd_of (c.at_ 14 (d := gd14) rfl) (He.glo_ok X G (c.fact 12))
  have F_need_letters : FD K mg "need_letters" s_need_letters := fd_of (c.at_ 15 (d := gd15) rfl) (He.glo_ok X G (c.fact 13))
  have F_Shelf_would_grow : FA K "would_grow" "Shelf.would_grow" s_Shelf_would_grow [] (He.ma K (cShelf K) "would_grow") := c.at_ 16 (d := gd16) rfl
  have F_need_lengths : FD K mg "need_lengths" s_need_lengths := fd_of (c.at_ 17 (d := gd17) rfl) (He.glo_ok X G (c.fact 14))
  have F_law_text : FD K mg "_law_text" s_law_text := fd_of (c.at_ 18 (d := gd18) rfl) (He.glo_ok X G (c.fact 15))
  have F_signs_of : FD K mg "signs_of" s_signs_of := fd_of (c.at_ 19 (d := gd19) rfl) (He.glo_ok X G (c.fact 16))
  have F_row_count : FD K mg "row_count" s_row_count := fd_of (c.at_ 20 (d := gd20) rfl) (He.glo_ok X G (c.fact 17))
  have F_Shelf_begin : FA K "begin" "Shelf.begin" s_Shelf_begin [] (He.ma K (cShelf K) "begin") := c.at_ 21 (d := gd21) rfl
  have F_law_counted_right : FD K mg "_law_counted_right" s_law_counted_right := fd_of (c.at_ 22 (d := gd22) rfl) (He.glo_ok X G (c.fact 18))
  have F_Shelf___init__ : FA K "__init__" "Shelf.__init__" s_Shelf___init__ [] (He.ma K (cShelf K) "__init__") := c.at_ 23 (d := gd23) rfl
  have F_Shelf_grow : FA K "grow" "Shelf.grow" s_Shelf_grow [] (He.ma K (cShelf K) "grow") := c.at_ 24 (d := gd24) rfl
  have F_works : FD K mg "works" s_works := fd_of (c.at_ 25 (d := gd25) rfl) (He.glo_ok X G (c.fact 19))
  have F_row_by : FD K mg "row_by" s_row_by := fd_of (c.at_ 26 (d := gd26) rfl) (He.glo_ok X G (c.fact 20))
  have F_lengths_of : FD K mg "lengths_of" s_lengths_of := fd_of (c.at_ 27 (d := gd27) rfl) (He.glo_ok X G (c.fact 21))
  obtain ⟨fd, F⟩ := c.at_ 28 (d := gd28) rfl
  have e := hfa.symm.trans (He.glo_ok X G (c.fact 22 (f := fun K => (He.Fa.glo "law").ok K) rfl))
  cases e
  have b := FunD.bindsA (ps := ["script"]) F fun _ _ _ _ _ _ us hl => match us, hl with | [_], _ => rfl
  refine ⟨fd, fun s v => b s [v] rfl, fun base _ _ => ?_⟩
  have c_is_int : Dn P w K mg base 1 "is_int" s_is_int ["value"] (spIsInt) := d_is_int T F_is_int
  have c_need_text : Dn P w K mg base 1 "need_text" s_need_text ["value", "letters"] (spNeedT) := d_need_text T F_need_text
  have c_Free___init__ : Fr P w K mg base 1 (He.ma K (cLim K .free) "__init__") ["self"] [] (spLimInit K .free) := d_Free___init__ T F_Free___init__
  have c_Shelf_longest_at : Fr P w K mg base 1 (He.ma K (cShelf K) "longest_at") ["self", "text", "at"] [] (spShLong K) := d_Shelf_longest_at T F_Shelf_longest_at
  have c_choices_for : Dn P w K mg base 1 "choices_for" s_choices_for ["letters", "lengths"] (spChoices K) := d_choices_for T F_choices_for
  have c_product_of : Dn P w K mg base 1 "product_of" s_product_of ["numbers"] (spProduct) := d_product_of T F_product_of
  have c_law_pen : Dn P w K mg base 1 "_law_pen" s_law_pen ["script"] (spPen K) := d_law_pen T F_law_pen
  have c_law_draw : Dn P w K mg base 1 "_law_draw" s_law_draw ["pen", "many"] (spDraw) := d_law_draw T F_law_draw
  have c_law_row : Dn P w K mg base 1 "_law_row" s_law_row ["text"] (spLRow) := d_law_row T F_law_row
  have c_law_choices : Dn P w K mg base 1 "_law_choices" s_law_choices ["letters", "lengths"] (spLChoices K) := d_law_choices T F_law_choices
  have c_law_product : Dn P w K mg base 1 "_law_product" s_law_product ["numbers"] (spLProduct) := d_law_product T F_law_product
  have c_lets : ∀ k : LimK, Fr P w K mg base 1 (He.ma K (cLim K k) "lets") ["self", "grown", "size"] [] (spLets K k) := fun k => match k with | .free => ((d_Limit_lets T (c.at_ 29 (d := gd29) rfl)).imp lets_free).lev (by decide) | .short => (d_Short_lets T (c.at_ 30 (d := gd30) rfl)).lev (by decide) | .cleared => ((d_Limit_lets T (c.at_ 31 (d := gd31) rfl)).imp lets_cleared).lev (by decide) | .standing => (d_Standing_lets T (c.at_ 32 (d := gd32) rfl)).lev (by decide)
  have c_ends : ∀ k : LimK, Fr P w K mg base 1 (He.ma K (cLim K k) "ends_at") ["self", "grown"] [] (spEnds K k) := fun k => match k with | .free => ((d_Limit_ends_at T (c.at_ 33 (d := gd33) rfl)).imp ends_free).lev (by decide) | .short => ((d_Limit_ends_at T (c.at_ 34 (d := gd34) rfl)).imp ends_short).lev (by decide) | .cleared => (d_Cleared_ends_at T (c.at_ 35 (d := gd35) rfl)).lev (by decide) | .standing => ((d_Limit_ends_at T (c.at_ 36 (d := gd36) rfl)).imp ends_standing).lev (by decide)
  have c_set_limit : ∀ h : Bool, Fr P w K mg base 1 (gtA K (cSet K h) "limit") ["self"] [] (spSetLimit K h) := fun h => match h with | true => d_Setting_limit T true (c.at_ 37 (d := gd37) rfl) | false => d_Setting_limit T false (c.at_ 38 (d := gd38) rfl)
  have c_is_between : Dn P w K mg base 2 "is_between" s_is_between ["value", "least", "most"] (spBetween) := d_is_between T F_is_between c_is_int
  have c_law_pick : Dn P w K mg base 2 "_law_pick" s_law_pick ["pen", "some"] (spPick K) := d_law_pick T F_law_pick c_law_draw
  have c_law_lengths : Dn P w K mg base 2 "_law_lengths" s_law_lengths ["text"] (spLLengths) := d_law_lengths T F_law_lengths c_law_row
  have c_law_bent : Dn P w K mg base 2 "_law_bent" s_law_bent ["pen", "lengths"] (spLBent K) := d_law_bent T F_law_bent c_law_draw
  have c_need_letters : Dn P w K mg base 3 "need_letters" s_need_letters ["value"] (spNeedL) := d_need_letters T F_need_letters c_is_between
  have c_Shelf_would_grow : Fr P w K mg base 3 (He.ma K (cShelf K) "would_grow") ["self", "word"] [] (spShWould K) := d_Shelf_would_grow T F_Shelf_would_grow c_set_limit c_lets
  have c_need_lengths : Dn P w K mg base 3 "need_lengths" s_need_lengths ["lengths"] (spNeedLens K) := d_need_lengths T F_need_lengths c_is_between
  have c_law_text : Dn P w K mg base 3 "_law_text" s_law_text ["pen", "letters", "most"] (spLText) := d_law_text T F_law_text c_law_pick c_law_draw
  have c_signs_of : Dn P w K mg base 4 "signs_of" s_signs_of ["letters"] (spSigns) := d_signs_of T F_signs_of c_need_letters
  have c_row_count : Dn P w K mg base 4 "row_count" s_row_count ["letters", "lengths"] (spRowCount K) := d_row_count T F_row_count c_need_letters c_need_lengths c_product_of c_choices_for
  have c_Shelf_begin : Fr P w K mg base 5 (He.ma K (cShelf K) "begin") ["self"] [] (spShBegin K) := d_Shelf_begin T F_Shelf_begin c_signs_of
  have c_law_counted_right : Dn P w K mg base 5 "_law_counted_right" s_law_counted_right ["letters", "lengths"] (spLCounted K) := d_law_counted_right T F_law_counted_right c_row_count c_law_product c_law_choices
  have c_set_init1 : ∀ h : Bool, Fr P w K mg base 5 (He.ma K (cSet K h) "__init__") ["self", "letters", "limit"] [.non] (spSetInit K h) := fun h => match h with | true => init1 T true (c.at_ 39 (d := gd39) rfl) c_need_letters c_Free___init__ | false => init1 T false (c.at_ 40 (d := gd40) rfl) c_need_letters c_Free___init__
  have c_Shelf___init__ : Fr P w K mg base 6 (He.ma K (cShelf K) "__init__") ["self", "setting"] [] (spShInit K) := d_Shelf___init__ T F_Shelf___init__ c_Shelf_begin
  have c_Shelf_grow : Fr P w K mg base 7 (He.ma K (cShelf K) "grow") ["self", "word"] [] (spShGrow K) := d_Shelf_grow T F_Shelf_grow c_Shelf_would_grow c_set_limit c_ends c_Shelf_begin
  have c_works : Gn P w K mg base 8 "works" s_works ["setting", "text", "shelf"] (spWorks K) := d_works T F_works c_Shelf_longest_at c_Shelf_grow
  have c_row_by : Dn P w K mg base 12 "row_by" s_row_by ["setting", "text"] (spRowBy K) := d_row_by T F_row_by c_works c_Shelf___init__
  have c_lengths_of : Dn P w K mg base 14 "lengths_of" s_lengths_of ["letters", "text"] (spLengthsOf K) := d_lengths_of T F_lengths_of c_need_letters c_need_text c_row_by c_set_init1
  exact law_ok T F c_law_pen c_law_pick c_law_text c_law_lengths c_law_bent c_law_counted_right c_row_count c_lengths_of c_law_draw
end LB
open PySem PySem.W PySem.Calls PyProof.Rows
set_option maxHeartbeats 0 in
theorem PySem.Challenge.cw_learntbooks_k37_lengths_and_row_counts_holds : PySem.Challenge.rw_learntbooks_k37_lengths_and_row_counts.Holds := by
  w_on; o_law
  refine HandSHeadRun.head_any (r := OpenLaw.row PySem.Challenge.rw_learntbooks_k37_lengths_and_row_counts) (q := view (OpenLaw.row PySem.Challenge.rw_learntbooks_k37_lengths_and_row_counts).prog [59]) (H := LB.hk) (ob := LB.ob) (M := 40000) (loose := LB.loose) (d := HandSHeadRun.topDef (OpenLaw.row PySem.Challenge.rw_learntbooks_k37_lengths_and_row_counts).prog 59) (kwd := []) LB.ob_eq
    (by kernel_rfl) (fun s => by kernel_rfl) LB.run (by kernel_rfl) (by kernel_rfl) (by kernel_rfl) (by rfl) (by first | assumption | decide +kernel) (by decide +kernel) ⟨rfl, rfl, rfl, rfl, rfl, by decide +kernel⟩ ?hw ?hc
  case hw => w_witness2
  case hc =>
    refine LB.walk_G (l := PySem.Challenge.rw_learntbooks_k37_lengths_and_row_counts) (n := 63) (k := 15) (x := "script") rfl (by decide) (by kernel_rfl) ⟨rfl, by decide, by decide⟩ ?F
    intro w mg fa h Y G hmg0
    obtain ⟨K, KX, c⟩ := Y
    have hmg : mg ("law" : PySem.Str) = some (.ref fa) := by
      have e : (HandSHeadRun.topDef (OpenLaw.row PySem.Challenge.rw_learntbooks_k37_lengths_and_row_counts).prog 59).name = ("law" : PySem.Str) := by kernel_rfl
      rw [← e]
      exact hmg0
    obtain ⟨fd, hb, hF⟩ := LB.facts (P := (PySem.Challenge.rw_learntbooks_k37_lengths_and_row_counts).prog) (w := w) KX G hmg c
    exact ⟨K, fd, LB.spLaw K, KX, hb, fun H a ns hl _ hS => LB.law_start hS hl, hF⟩
#print axioms PySem.Challenge.cw_learntbooks_k37_lengths_and_row_counts_holds

