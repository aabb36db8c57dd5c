import PyProof.Rows.All
import Wide.All
import OpenK.AllK
import Wide.FinOn
import HandS.ForMost
import HandS.Exc
import HandS.ExcOwn
import HandS.Wide
import HandS.WideMore
import HandS.IsInst
import HandS.TupLe
import HandS.Defaults
import HandS.HeadEnd
import HandS.HeadHook1
import HandS.HeadHook2
import HandS.HeadHook3
import HandS.Head0
import HandS.Head1
import HandS.Head2
import HandS.More
import HandS.Codes
import HandS.Flow
import HandS.TupAny
import PySem.Challenge.RW_learntbooks_k02_values_looked_at
set_option Elab.async false
set_option linter.all false
set_option maxRecDepth 100000
set_option maxHeartbeats 4000000

namespace LB
open PySem PySem.Spec PyProof.Rows L2

/-! ## stepping lemmas: a reading's head is unfolded, what follows stays closed -/
section
variable {K : PySem.W.Frag} {D : Ends} {σ : L2.St} {H : Hp} {Q : VK} {ta tb tc te : TE} {tA tB' : TT} {t u : TS} {i : Nat} {v x y : V} {r : R2}

theorem w_seq (q : t { D with nx := u D } σ H) : tSeq t u D σ H := q
theorem w_seqA {g : TG} (q : tAsg te g { D with nx := u D } σ H) : tSeq (tAsg te g) u D σ H := q
theorem w_seqE (q : tDrop te { D with nx := u D } σ H) : tSeq (tDrop te) u D σ H := q
theorem w_seqG {ti : TIp} (q : tAug i te ti { D with nx := u D } σ H) : tSeq (tAug i te ti) u D σ H := q
theorem w_seqP {j : Nat} {ts : TA} (q : tPar i j ts { D with nx := u D } σ H) : tSeq (tPar i j ts) u D σ H := q
/-- the ways of t meet in Mid -/
theorem w_join (Mid : L2.St → Hp → Prop) (h : ∀ X : L2.St → Hp → Prop, (∀ σ' H', Mid σ' H' → X σ' H') → t { D with nx := X } σ H) (hX : ∀ σ' H', Mid σ' H' → u D σ' H') : tSeq t u D σ H := h (u D) hX
theorem w_two {P : V → V → Prop} (q : P x y) : ∃ v w, [x, y] = [v, w] ∧ P v w := ⟨x, y, rfl, q⟩
/-- the ways of an expression meet in Mid -/
theorem w_val (Mid : V → Hp → Prop) (h : ∀ X : VK, (∀ v H', Mid v H' → X v H') → te σ H X) (hQ : ∀ v H', Mid v H' → Q v H') : te σ H Q := h Q hQ
theorem w_par {j : Nat} {ts : TA} (q : ts σ H fun vs H1 => ∃ v w, vs = [v, w] ∧ gName i v σ H1 fun σ1 H2 => gName j w σ1 H2 D.nx) : tPar i j ts D σ H := q
theorem w_nx {f bk ct : L2.St → Hp → Prop} {rt : VK} (q : f σ H) : (Ends.mk f rt bk ct).nx σ H := q
theorem w_bk {f bk ct : L2.St → Hp → Prop} {rt : VK} (q : bk σ H) : (Ends.mk f rt bk ct).bk σ H := q
theorem w_ct {f bk ct : L2.St → Hp → Prop} {rt : VK} (q : ct σ H) : (Ends.mk f rt bk ct).ct σ H := q
theorem w_rt {f bk ct : L2.St → Hp → Prop} {rt : VK} (q : rt v H) : (Ends.mk f rt bk ct).rt v H := q
theorem w_next (q : D.nx σ H) : tNext D σ H := q
theorem w_brk (q : D.bk σ H) : tBreak D σ H := q
theorem w_cont (q : D.ct σ H) : tCont D σ H := q
theorem w_drop (q : te σ H fun _ H1 => D.nx σ H1) : tDrop te D σ H := q
theorem w_ret (q : te σ H D.rt) : tRet te D σ H := q
theorem w_retN (q : D.rt .non H) : tRetN D σ H := q
theorem w_asg {g : TG} (q : te σ H fun x H1 => g x σ H1 D.nx) : tAsg te g D σ H := q
theorem w_ifS (q : tA σ H fun b H1 => if b = true then t D σ H1 else u D σ H1) : tIfS tA t u D σ H := q
theorem w_aug {ti : TIp} (h : σ[i]? = some (some x)) (q : te σ H fun y H1 => ti x y H1 fun z H2 => D.nx (σ.set i (some z)) H2) : tAug i te ti D σ H := ⟨x, h, q⟩
theorem w_var (h : σ[i]? = some (some v)) (q : Q v H) : tVar i σ H Q := ⟨v, h, q⟩
theorem w_c (q : Q v H) : tC v σ H Q := q
theorem w_op (q : ta σ H fun x H1 => tb σ H1 fun y H2 => r x y H2 Q) : tOp r ta tb σ H Q := q
theorem w_un {r : V → Hp → VK → Prop} (q : ta σ H fun x H1 => r x H1 Q) : tUn r ta σ H Q := q
theorem w_if (q : tA σ H fun c H1 => if c = true then ta σ H1 Q else tb σ H1 Q) : tIf tA ta tb σ H Q := q
theorem w_andV (q : ta σ H fun x H1 => ∃ c, x = .bl c ∧ if c = true then tb σ H1 Q else Q (.bl false) H1) : tAndV ta tb σ H Q := q
theorem w_orV (q : ta σ H fun x H1 => ∃ c, x = .bl c ∧ if c = true then Q (.bl true) H1 else tb σ H1 Q) : tOrV ta tb σ H Q := q
theorem w_notV (q : ta σ H fun x H1 => ∃ c, x = .bl c ∧ Q (.bl (!c)) H1) : tNotV ta σ H Q := q
theorem w_bl {c : Bool} {P : Bool → Prop} (q : P c) : ∃ b, V.bl c = .bl b ∧ P b := ⟨c, rfl, q⟩
theorem w_test {R : Bool → Hp → Prop} (q : te σ H fun x H' => ∃ k, x = .bl k ∧ R k H') : tTest te σ H R := q
theorem w_B {R : Bool → Hp → Prop} (q : te σ H fun x H1 => ∃ c, x = .bl c ∧ R c H1) : tB te σ H R := q
theorem w_and {R : Bool → Hp → Prop} (q : tA σ H fun c H1 => if c = true then tB' σ H1 R else R false H1) : tAnd tA tB' σ H R := q
theorem w_or {R : Bool → Hp → Prop} (q : tA σ H fun c H1 => if c = true then R true H1 else tB' σ H1 R) : tOr tA tB' σ H R := q
theorem w_not {R : Bool → Hp → Prop} (q : tA σ H fun c H1 => R (!c) H1) : tNot tA σ H R := q
theorem w_chain {r' : R2} (q : ta σ H fun x H1 => tb σ H1 fun y H2 => r x y H2 fun z H3 => ∃ k, z = .bl k ∧ (if k = true then tc σ H3 fun w' H4 => r' y w' H4 Q else Q (.bl false) H3)) : tChain r r' ta tb tc σ H Q := q
theorem w_nil {R : List V → Hp → Prop} (q : R [] H) : tNil σ H R := q
theorem w_cons {ts : TA} {R : List V → Hp → Prop} (q : ta σ H fun x H1 => ts σ H1 fun xs H2 => R (x :: xs) H2) : tCons ta ts σ H R := q
theorem w_lst {ts : TA} (q : ts σ H fun xs H1 => xs.length ≤ sizeLine ∧ ∀ p, H1 p = none → Q (.ref p) (upd H1 p (.lst xs))) : tLst ts σ H Q := q
theorem w_tup {ts : TA} (q : ts σ H fun xs H1 => xs.length ≤ sizeLine ∧ ∀ p, H1 p = none → Q (.ref p) (upd H1 p (.tup xs))) : tTup ts σ H Q := q
theorem w_call {sp : Sp} {dvs : List V} {E : XK} {ts : TA} (q : ts σ H fun vs H1 => sp (vs ++ dvs) H1 Q E) : tCall sp dvs E ts σ H Q := q
theorem w_callN {n m : Nat} {sp : Sp} {gV : List V → List V → List V} {E : XK} {ts tk : TA} (q : ts σ H fun vs H1 => tk σ H1 fun zs H2 => vs.length = n ∧ zs.length = m ∧ sp (gV vs zs) H2 Q E) : tCallN n m sp gV E ts tk σ H Q := q
theorem w_cb {r : List V → Hp → VK → Prop} {ts : TA} (q : ts σ H fun vs H1 => r vs H1 Q) : tCB r ts σ H Q := q
theorem w_I0 {g : Int → Int → V} {a b : Int} (q : Q (g a b) H) : rI0 g (.int a) (.int b) H Q := ⟨a, b, rfl, rfl, q⟩
theorem w_I {C : Int → Int → Prop} {g : Int → Int → V} {a b : Int} (c : C a b) (q : Q (g a b) H) : rI C g (.int a) (.int b) H Q := ⟨a, b, rfl, rfl, c, q⟩
theorem w_U {g : Int → V} {a : Int} (q : Q (g a) H) : rU g (.int a) H Q := ⟨a, rfl, q⟩
theorem w_eq (s : scal x y = true) (q : Q (.bl (decide (x = y))) H) : rEq x y H Q := ⟨s, q⟩
theorem w_ne (s : scal x y = true) (q : Q (.bl (!decide (x = y))) H) : rNe x y H Q := ⟨s, q⟩
theorem w_sl {r : V → Option Int → Option Int → Hp → VK → Prop} {tl th : TO} (q : te σ H fun x H1 => tl σ H1 fun l H2 => th σ H2 fun u H3 => r x l u H3 Q) : tSl r te tl th σ H Q := q
theorem w_noPart {R : Option Int → Hp → Prop} (q : R none H) : tNoPart σ H R := q
theorem w_part {R : Option Int → Hp → Prop} (q : te σ H fun x H1 => ∃ i, x = .int i ∧ R (some i) H1) : tPart te σ H R := q
theorem w_int {a : Int} {P : Int → Prop} (q : P a) : ∃ i, V.int a = .int i ∧ P i := ⟨a, rfl, q⟩
variable {a0 a1 a2 a3 a4 a5 a6 a7 a8 a9 b0 b1 b2 b3 : Option V} {rs : L2.St} {R : L2.St → Hp → Prop}
theorem w_v0 (q : Q v H) : tVar 0 (some v :: rs) H Q := ⟨v, rfl, q⟩
theorem w_v1 (q : Q v H) : tVar 1 (a0 :: some v :: rs) H Q := ⟨v, rfl, q⟩
theorem w_v2 (q : Q v H) : tVar 2 (a0 :: a1 :: some v :: rs) H Q := ⟨v, rfl, q⟩
theorem w_v3 (q : Q v H) : tVar 3 (a0 :: a1 :: a2 :: some v :: rs) H Q := ⟨v, rfl, q⟩
theorem w_v4 (q : Q v H) : tVar 4 (a0 :: a1 :: a2 :: a3 :: some v :: rs) H Q := ⟨v, rfl, q⟩
theorem w_v5 (q : Q v H) : tVar 5 (a0 :: a1 :: a2 :: a3 :: a4 :: some v :: rs) H Q := ⟨v, rfl, q⟩
theorem w_v6 (q : Q v H) : tVar 6 (a0 :: a1 :: a2 :: a3 :: a4 :: a5 :: some v :: rs) H Q := ⟨v, rfl, q⟩
theorem w_v7 (q : Q v H) : tVar 7 (a0 :: a1 :: a2 :: a3 :: a4 :: a5 :: a6 :: some v :: rs) H Q := ⟨v, rfl, q⟩
theorem w_v8 (q : Q v H) : tVar 8 (a0 :: a1 :: a2 :: a3 :: a4 :: a5 :: a6 :: a7 :: some v :: rs) H Q := ⟨v, rfl, q⟩
theorem w_v9 (q : Q v H) : tVar 9 (a0 :: a1 :: a2 :: a3 :: a4 :: a5 :: a6 :: a7 :: a8 :: some v :: rs) H Q := ⟨v, rfl, q⟩
theorem w_v10 (q : Q v H) : tVar 10 (a0 :: a1 :: a2 :: a3 :: a4 :: a5 :: a6 :: a7 :: a8 :: a9 :: some v :: rs) H Q := ⟨v, rfl, q⟩
theorem w_v11 (q : Q v H) : tVar 11 (a0 :: a1 :: a2 :: a3 :: a4 :: a5 :: a6 :: a7 :: a8 :: a9 :: b0 :: some v :: rs) H Q := ⟨v, rfl, q⟩
theorem w_v12 (q : Q v H) : tVar 12 (a0 :: a1 :: a2 :: a3 :: a4 :: a5 :: a6 :: a7 :: a8 :: a9 :: b0 :: b1 :: some v :: rs) H Q := ⟨v, rfl, q⟩
theorem w_g0 (q : R (some v :: rs) H) : gName 0 v (a0 :: rs) H R := q
theorem w_g1 (q : R (a0 :: some v :: rs) H) : gName 1 v (a0 :: a1 :: rs) H R := q
theorem w_g2 (q : R (a0 :: a1 :: some v :: rs) H) : gName 2 v (a0 :: a1 :: a2 :: rs) H R := q
theorem w_g3 (q : R (a0 :: a1 :: a2 :: some v :: rs) H) : gName 3 v (a0 :: a1 :: a2 :: a3 :: rs) H R := q
theorem w_g4 (q : R (a0 :: a1 :: a2 :: a3 :: some v :: rs) H) : gName 4 v (a0 :: a1 :: a2 :: a3 :: a4 :: rs) H R := q
theorem w_g5 (q : R (a0 :: a1 :: a2 :: a3 :: a4 :: some v :: rs) H) : gName 5 v (a0 :: a1 :: a2 :: a3 :: a4 :: a5 :: rs) H R := q
theorem w_g6 (q : R (a0 :: a1 :: a2 :: a3 :: a4 :: a5 :: some v :: rs) H) : gName 6 v (a0 :: a1 :: a2 :: a3 :: a4 :: a5 :: a6 :: rs) H R := q
theorem w_g7 (q : R (a0 :: a1 :: a2 :: a3 :: a4 :: a5 :: a6 :: some v :: rs) H) : gName 7 v (a0 :: a1 :: a2 :: a3 :: a4 :: a5 :: a6 :: a7 :: rs) H R := q
theorem w_g8 (q : R (a0 :: a1 :: a2 :: a3 :: a4 :: a5 :: a6 :: a7 :: some v :: rs) H) : gName 8 v (a0 :: a1 :: a2 :: a3 :: a4 :: a5 :: a6 :: a7 :: a8 :: rs) H R := q
theorem w_g9 (q : R (a0 :: a1 :: a2 :: a3 :: a4 :: a5 :: a6 :: a7 :: a8 :: some v :: rs) H) : gName 9 v (a0 :: a1 :: a2 :: a3 :: a4 :: a5 :: a6 :: a7 :: a8 :: a9 :: rs) H R := q
theorem w_g10 (q : R (a0 :: a1 :: a2 :: a3 :: a4 :: a5 :: a6 :: a7 :: a8 :: a9 :: some v :: rs) H) : gName 10 v (a0 :: a1 :: a2 :: a3 :: a4 :: a5 :: a6 :: a7 :: a8 :: a9 :: b0 :: rs) H R := q
theorem w_g11 (q : R (a0 :: a1 :: a2 :: a3 :: a4 :: a5 :: a6 :: a7 :: a8 :: a9 :: b0 :: some v :: rs) H) : gName 11 v (a0 :: a1 :: a2 :: a3 :: a4 :: a5 :: a6 :: a7 :: a8 :: a9 :: b0 :: b1 :: rs) H R := q
theorem w_g12 (q : R (a0 :: a1 :: a2 :: a3 :: a4 :: a5 :: a6 :: a7 :: a8 :: a9 :: b0 :: b1 :: some v :: rs) H) : gName 12 v (a0 :: a1 :: a2 :: a3 :: a4 :: a5 :: a6 :: a7 :: a8 :: a9 :: b0 :: b1 :: b2 :: rs) H R := q
end

/-! ## calls: one record a def -/
section
variable (P : Program) (w : World) (K : PySem.W.Frag) (mg : Str → Option Value) (base : Heap)
/-- a def of the text, its promise, how it is bound by place -/
structure Dn (k : Nat) (x : Str) (st : Stmt) (ps : List Str) (sp : Sp) : Prop where
  ex : ∃ (f : Addr) (fd : FuncData), FunD K x x (defArgs st) (defBody st) (defScope st) [] [] f fd ∧ FnOk P w K mg base CX0 k f fd ps sp ∧ mg x = some (.ref f) ∧ Binds K fd ps []
end
/-- the items with these indexes -/
def sel {α : Type} (ix : List Nat) (xs : List α) : List α := ix.filterMap fun i => xs[i]?
theorem sel_rel {xs : List V} {us : List Value} (r : Vals xs us) : ∀ ix : List Nat, Vals (sel ix xs) (sel ix us)
  | [] => .nil
  | i :: ix => by
    have t := sel_rel r ix
    unfold sel at t ⊢
    rw [List.filterMap_cons, List.filterMap_cons]
    cases h : xs[i]? with
    | none =>
      rw [r.none_of h]
      exact t
    | some x =>
      obtain ⟨u, h1, h2⟩ := r.get h
      rw [h1]
      exact .cons h2 t
section
variable {P : Program} {w : World} {K : PySem.W.Frag} {mg : Str → Option Value} {base : Heap} {x : Str} {st : Stmt} {ps ks : List Str} {sp : Sp} {k n : Nat} {f : Addr} {fd : FuncData} {dvs : List V} {kws : List (Str × V)}
/-- keywords: ix puts the written values in the parameters' order -/
structure KwOk (st : Stmt) (x : Str) (ps : List Str) (n : Nat) (ks : List Str) (ix : List Nat) : Prop where
  h : ∀ (kV doc pm : Value) (an : Option Addr) (cdv ct : Value) (us ws : List Value), us.length = n → ws.length = ks.length →
    bindArgs (PySem.W.fnOf x x (defArgs st) (defBody st) (defScope st) .none kV doc pm an cdv ct) ⟨us, ks.zip ws⟩ = pure (ps.zip (sel ix (us ++ ws)))
theorem kbn_of {ix : List Nat} (F : FunD K x x (defArgs st) (defBody st) (defScope st) [] [] f fd) (o : KwOk st x ps n ks ix) : KBn K fd ps n ks (fun us ws => sel ix (us ++ ws)) (fun vs zs => sel ix (vs ++ zs)) := by
  obtain ⟨oc, od, dV, kV, doc, pm, an, cdv, ct, osl, rfl, lk, hcd, hD, hK⟩ := F.ex
  rcases hD with ⟨_, rfl⟩ | ⟨e, _⟩
  · exact ⟨fun s us ws _ l1 l2 => .of_eq (o.h kV doc pm an cdv ct us ws l1 l2), fun r1 r2 => sel_rel (r1.append r2) ix⟩
  · exact absurd rfl e
end
section
variable {X : Cx} {k j n : Nat} {x : Str} {st : Stmt} {ps ks : List Str} {sp : Sp} {p pos : Pos} {e : Expr} {es : List Expr} {kws : List Keyword} {t tk : TA} {ix : List Nat}
theorem pe_d (c : Dn X.prog X.w X.K X.mg X.base k x st ps sp) (hr : Room j X.A) (hk : k ≤ j) (hg : Gl X x) (ha : PA X (e :: es) t)
    (hdb : (x == ("__debug__" : Str)) = false := by decide) (he : starEach (e :: es) X.env = (false, eval e X.env) :: starEach es X.env := by rfl) (hpl : (backTo pos (starEach es X.env)).any (·.1) = false := by rfl) :
    PE X (.Call (.Name x p) (e :: es) [] pos) (tCall sp [] E0 t) := by
  obtain ⟨f, fd, F, ok, hm, b⟩ := c.ex
  exact pe_call ok (hr.mono hk) hg hm F.kp b .nil pass0 ha hdb he hpl
theorem pe_d0 (c : Dn X.prog X.w X.K X.mg X.base k x st ps sp) (hr : Room j X.A) (hk : k ≤ j) (hg : Gl X x)
    (hdb : (x == ("__debug__" : Str)) = false := by decide) : PE X (.Call (.Name x p) [] [] pos) (tCall sp [] E0 tNil) := by
  obtain ⟨f, fd, F, ok, hm, b⟩ := c.ex
  exact pe_call0 ok (hr.mono hk) hg hm F.kp b .nil pass0 hdb
theorem pe_dN (c : Dn X.prog X.w X.K X.mg X.base k x st ps sp) (hr : Room j X.A) (hk : k ≤ j) (hg : Gl X x) (o : KwOk st x ps n ks ix) (ha : PA X (e :: es) t) (hkw : PK X kws tk)
    (hall : (backToKw pos (keywordEach kws X.env)).all (·.1.isSome) = true := by rfl) (hks : (backToKw pos (keywordEach kws X.env)).filterMap (·.1) = ks := by rfl)
    (hdb : (x == ("__debug__" : Str)) = false := by decide) (he : starEach (e :: es) X.env = (false, eval e X.env) :: starEach es X.env := by rfl)
    (hpl : ((backTo pos (starEach (e :: es) X.env)).any (·.1) || (backToKw pos (keywordEach kws X.env)).any (·.1.isNone)) = false := by rfl) :
    PE X (.Call (.Name x p) (e :: es) kws pos) (tCallN n ks.length sp (fun vs zs => sel ix (vs ++ zs)) E0 t tk) := by
  obtain ⟨f, fd, F, ok, hm, b⟩ := c.ex
  exact pe_callN ok (hr.mono hk) hg hm F.kp (kbn_of F o) pass0 ha hkw hall hks hdb he hpl
/-- f(k = v, ..): keywords alone -/
theorem pe_dN0 (c : Dn X.prog X.w X.K X.mg X.base k x st ps sp) (hr : Room j X.A) (hk : k ≤ j) (hg : Gl X x) (o : KwOk st x ps 0 ks ix) (hkw : PK X kws tk)
    (hall : (backToKw pos (keywordEach kws X.env)).all (·.1.isSome) = true := by rfl) (hks : (backToKw pos (keywordEach kws X.env)).filterMap (·.1) = ks := by rfl)
    (hdb : (x == ("__debug__" : Str)) = false := by decide)
    (hpl : ((backTo pos (starEach [] X.env)).any (·.1) || (backToKw pos (keywordEach kws X.env)).any (·.1.isNone)) = false := by rfl) :
    PE X (.Call (.Name x p) [] kws pos) (tCallN 0 ks.length sp (fun vs zs => sel ix (vs ++ zs)) E0 tNil tk) := by
  obtain ⟨f, fd, F, ok, hm, b⟩ := c.ex
  refine ⟨fun pins s σ H Q I h => ?_⟩
  refine wpAny_Call_Name_kw (ld_glob I hg hm ?_ hdb)
  refine PySem.W.callWith_KW0 (h₀ := X.base) I.ok.mod.kin F.kp hall ?_ hpl
  obtain h : tk σ H fun zs H2 => ([] : List V).length = 0 ∧ zs.length = ks.length ∧ sp (sel ix ([] ++ zs)) H2 Q E0 := h
  refine thn (hkw.run pos pins s σ H _ I h) fun ws s2 ⟨zs, H2, I2, rz, l1, l2, q2⟩ => ⟨I2.kIn, ?_⟩
  rw [hks]
  exact run_fnN ok (hr.mono hk) (kbn_of F o) pass0 I2 .nil rz l1 l2 q2
end

section
variable {P : Program} {w : World} {K : PySem.W.Frag} {mg : Str → Option Value} {base : Heap} {x : Str} {st : Stmt} {ps N : List Str} {sp : Sp} {k : Nat}
/-- a def of the text as it stands behind the top -/
def FD (K : PySem.W.Frag) (mg : Str → Option Value) (x : Str) (st : Stmt) : Prop := ∃ (f : Addr) (fd : FuncData), FunD K x x (defArgs st) (defBody st) (defScope st) [] [] f fd ∧ mg x = some (.ref f)
theorem fd_of {f : Addr} (h : ∃ fd, FunD K x x (defArgs st) (defBody st) (defScope st) [] [] f fd) (g : mg x = some (.ref f)) : FD K mg x st :=
  let ⟨fd, F⟩ := h
  ⟨f, fd, F, g⟩
theorem glob_of {v : V} {α : Type} {q : α → Value} (h : ∃ t, mg x = some (q t)) (r : ∀ t, RelV v (q t)) : ∃ u, mg x = some u ∧ RelV v u :=
  let ⟨t, e⟩ := h
  ⟨_, e, r t⟩
theorem glob_i {i : Int} (h : ∃ t, mg x = some (.int i t)) : ∃ u, mg x = some u ∧ RelV (.int i) u := glob_of h fun t => ⟨t, rfl⟩
theorem glob_s {z : Str} (h : ∃ t, mg x = some (.str z t)) : ∃ u, mg x = some u ∧ RelV (.str z) u := glob_of h fun t => ⟨t, rfl⟩
/-- THE RULE for a def -/
theorem dn_of (F : FD K mg x st) (hbind : ∀ (kV doc pm : Value) (an : Option Addr) (cdv ct : Value) (us : List Value), us.length = ps.length → bindArgs (PySem.W.fnOf x x (defArgs st) (defBody st) (defScope st) .none kV doc pm an cdv ct) ⟨us, []⟩ = pure (ps.zip us))
    (S : FnScope N ps (defScope st)) (len : ∀ vs H Q E, sp vs H Q E → vs.length = ps.length)
    (hbody : ∀ (f : Addr) (cdv : Value) (A : Around) (outer : List Env) (s : Shared) (H : Hp) (vs : List V) (Q : VK) (E : XK), Room k (A.deeper (envOfC x (defScope st) s.heap.objs.size f cdv)) → sp vs H Q E →
      ∃ t, PSs (cxOf CX0 P w K mg base N x (defScope st) f cdv A outer s H E) (defBody st) t ∧ t { nx := fun _ H' => Q .non H', rt := Q } (start N vs) H) : Dn P w K mg base (k + 1) x st ps sp := by
  obtain ⟨f, fd, F, g⟩ := F
  exact ⟨f, fd, F, F.ok S len fun cdv A outer s H vs Q E hr h => hbody f cdv A outer s H vs Q E hr h, g, F.bindsN hbind⟩
end

/-- a module's constant -/
theorem pe_gv {X : Cx} {x : Str} {v : V} {pos : Pos} (hg : Gl X x) (h : ∃ u, X.mg x = some u ∧ RelV v u) (hd : (x == ("__debug__" : Str)) = false := by decide) : PE X (.Name x pos) (tC v) :=
  let ⟨_, hm, r⟩ := h
  pe_glob hg hm r hd
/-! ## operators that the layer lacks -/
section
variable {X : Cx}
/-- text * int -/
def rMulS : R2 := fun x y H Q => ∃ (z : Str) (n : Int), x = .str z ∧ y = .int n ∧ (2 ≤ n ∧ n ≤ 100000 ∧ 0 < z.length ∧ z.length * n.toNat ≤ sizeLine) ∧ Q (.str ⟨(List.replicate n.toNat z.cps).foldl (· ++ ·) #[]⟩) H
theorem size_rep (a : Array Nat) : ∀ (m : Nat) (acc : Array Nat), ((List.replicate m a).foldl (· ++ ·) acc).size = acc.size + m * a.size
  | 0, acc => by simp
  | m + 1, acc => by
    rw [List.replicate_succ, List.foldl_cons, size_rep a m, Array.size_append, Nat.succ_mul]
    omega
theorem op_mulS : OpR X (binaryOp .Mult) rMulS := by
  intro pins s σ H x y v u Q I rx ry h
  obtain ⟨z, n, rfl, rfl, ⟨h1, h2, h3, h4⟩, q⟩ := h
  obtain ⟨t, rfl⟩ := rx
  obtain ⟨t', rfl⟩ := ry
  have e2 : z.length * n.toNat ≤ 16777216 := by
    have e := sizeLine_eq
    omega
  refine PySem.P.mul_str ?_ ?_ ?_ ?_
  · rw [decide_eq_false (by omega), decide_eq_false (by omega)]
    rfl
  · intro _ _ hgt
    have e1 : (z.length : Int) * n ≤ 16777216 := by
      have e3 : ((n.toNat : Nat) : Int) = n := Int.toNat_of_nonneg (by omega)
      have e4 : ((z.length * n.toNat : Nat) : Int) ≤ ((16777216 : Nat) : Int) := Int.ofNat_le.mpr e2
      rw [Int.natCast_mul, e3] at e4
      exact e4
    have e5 : (z.length : Int) ≤ (2 ^ 63 - 1) / n := by
      rw [Int.le_ediv_iff_mul_le (by omega)]
      omega
    omega
  · intro _ _
    unfold PySem.Builtin.Str.tooLong
    rw [decide_eq_false_iff_not]
    omega
  · have n1 : ¬ n < 1 := by omega
    have n2 : (n == 1 || z.length == 0) = false := by
      rw [Bool.or_eq_false_iff]
      exact ⟨beq_eq_false_iff_ne.mpr (by omega), beq_eq_false_iff_ne.mpr (by omega)⟩
    rw [if_neg n1, n2]
    refine ⟨?_, ⟨.str _, H, I.tok _, ⟨_, rfl⟩, q⟩⟩
    show ((List.replicate n.toNat z.cps).foldl (· ++ ·) #[]).size ≤ sizeLine
    rw [size_rep]
    have e : z.length = z.cps.size := rfl
    rw [e, Nat.mul_comm] at h4
    simpa using h4
end

/-! ## readings under names, with their steps -/
section
variable {X : Cx} {K : PySem.W.Frag} {D : Ends} {σ : L2.St} {H : Hp} {Q : VK}
def rInt1 : List V → Hp → VK → Prop := fun xs H Q => (∃ i, xs = [.int i] ∧ Q (.int i) H) ∨ ∃ k, xs = [.bl k] ∧ Q (.int (if k then 1 else 0)) H
theorem cl_int1 : CallR X (.type "int") rInt1 := call_int1
theorem w_int1 {i : Int} (q : Q (.int i) H) : rInt1 [.int i] H Q := .inl ⟨i, rfl, q⟩
theorem w_int1b {k : Bool} (q : Q (.int (if k then 1 else 0)) H) : rInt1 [.bl k] H Q := .inr ⟨k, rfl, q⟩
def rAbs : List V → Hp → VK → Prop := fun xs H Q => ∃ i, xs = [.int i] ∧ Q (.int (if i < 0 then -i else i)) H
theorem cl_abs : CallR X (.builtin "abs") rAbs := call_abs
theorem w_abs {i : Int} (q : Q (.int (if i < 0 then -i else i)) H) : rAbs [.int i] H Q := ⟨i, rfl, q⟩
def rLenQ (K : PySem.W.Frag) : List V → Hp → VK → Prop := fun xs H Q => ∃ p ys, xs = [.ref p] ∧ (SqL K H p ys ∨ SqT K H p ys) ∧ Q (.int ys.length) H
theorem cl_lenQ : CallR X (.builtin "len") (rLenQ X.K) := call_len_seq
theorem w_lenL {p : Addr} {xs : List V} (h : H p = some (.lst xs)) (q : Q (.int xs.length) H) : rLenQ K [.ref p] H Q := ⟨p, xs, rfl, .inl (SqL.of h), q⟩
theorem w_lenT {p : Addr} {xs : List V} (h : H p = some (.tup xs)) (q : Q (.int xs.length) H) : rLenQ K [.ref p] H Q := ⟨p, xs, rfl, .inr (SqT.of h), q⟩
def rLenS : List V → Hp → VK → Prop := fun xs H Q => ∃ z, xs = [.str z] ∧ z.length ≤ sizeLine ∧ Q (.int z.length) H
theorem cl_lenS : CallR X (.builtin "len") rLenS := call_len_str
theorem w_lenS {z : Str} (h : z.length ≤ sizeLine) (q : Q (.int z.length) H) : rLenS [.str z] H Q := ⟨z, rfl, h, q⟩
def rStrI : List V → Hp → VK → Prop := fun xs H Q => ∃ i, xs = [.int i] ∧ i.natAbs.log2 < 1920 ∧ Q (.str (toString i)) H
theorem cl_strI : CallR X (.type "str") rStrI := call_str_int
theorem w_strI {i : Int} (h : i.natAbs.log2 < 1920) (q : Q (.str (toString i)) H) : rStrI [.int i] H Q := ⟨i, rfl, h, q⟩
def rIntS : List V → Hp → VK → Prop := fun xs H Q => ∃ a n, xs = [.str a] ∧ PySem.intText? a = some n ∧ a.length ≤ 640 ∧ Q (.int n) H
theorem cl_intS : CallR X (.type "int") rIntS := call_int_str
theorem w_intS {a : Str} {n : Int} (h : PySem.intText? a = some n) (l : a.length ≤ 640) (q : Q (.int n) H) : rIntS [.str a] H Q := ⟨a, n, rfl, h, l, q⟩
def rAddS : R2 := fun x y H Q => ∃ i j, x = .str i ∧ y = .str j ∧ i.length + j.length ≤ sizeLine ∧ Q (.str (i ++ j)) H
theorem op_addS : OpR X (binaryOp .Add) rAddS := op_add_str
theorem w_addS {a b : Str} (h : a.length + b.length ≤ sizeLine) (q : Q (.str (a ++ b)) H) : rAddS (.str a) (.str b) H Q := ⟨a, b, rfl, rfl, h, q⟩
def rIsN : R2 := fun x y H Q => y = .non ∧ Q (.bl (decide (x = .non))) H
theorem op_isN' : OpR X (compareOp .Is) rIsN := op_isN
theorem w_isN {x : V} (q : Q (.bl (decide (x = .non))) H) : rIsN x .non H Q := ⟨rfl, q⟩
def rNotN : R2 := fun x y H Q => y = .non ∧ Q (.bl (!decide (x = .non))) H
theorem op_notN' : OpR X (compareOp .IsNot) rNotN := op_notN
theorem w_notN {x : V} (q : Q (.bl (!decide (x = .non))) H) : rNotN x .non H Q := ⟨rfl, q⟩
def rIsB : R2 := fun x y H Q => ∃ a b, x = .bl a ∧ y = .bl b ∧ Q (.bl (decide (a = b))) H
theorem op_isB : OpR X (compareOp .Is) rIsB := op_is_bl
theorem w_isB {a b : Bool} (q : Q (.bl (decide (a = b))) H) : rIsB (.bl a) (.bl b) H Q := ⟨a, b, rfl, rfl, q⟩
def rIsNotB : R2 := fun x y H Q => ∃ a b, x = .bl a ∧ y = .bl b ∧ Q (.bl (!decide (a = b))) H
theorem op_isNotB : OpR X (compareOp .IsNot) rIsNotB := op_isnot_bl
theorem w_isNotB {a b : Bool} (q : Q (.bl (!decide (a = b))) H) : rIsNotB (.bl a) (.bl b) H Q := ⟨a, b, rfl, rfl, q⟩
def rInS : R2 := fun x y H Q => ∃ i j, x = .str i ∧ y = .str j ∧ Q (.bl (!(Builtin.Str.occurrences j i 0 j.length 1).isEmpty)) H
theorem op_inS' : OpR X (compareOp .In) rInS := op_in_str
def rIn1 : R2 := fun x y H Q => ∃ (c : Nat) (z : Str), x = .str ⟨#[c]⟩ ∧ y = .str z ∧ Q (.bl (decide (c ∈ z.cps.toList))) H
theorem op_in1 : OpR X (compareOp .In) rIn1 := op_in_sign
theorem w_in1 {c : Nat} {z : Str} (q : Q (.bl (decide (c ∈ z.cps.toList))) H) : rIn1 (.str ⟨#[c]⟩) (.str z) H Q := ⟨c, z, rfl, rfl, q⟩
def rNotIn1 : R2 := fun x y H Q => ∃ (c : Nat) (z : Str), x = .str ⟨#[c]⟩ ∧ y = .str z ∧ Q (.bl (!decide (c ∈ z.cps.toList))) H
theorem op_notIn1 : OpR X (compareOp .NotIn) rNotIn1 := op_notIn_sign
theorem w_notIn1 {c : Nat} {z : Str} (q : Q (.bl (!decide (c ∈ z.cps.toList))) H) : rNotIn1 (.str ⟨#[c]⟩) (.str z) H Q := ⟨c, z, rfl, rfl, q⟩
def rListOf (K : PySem.W.Frag) : List V → Hp → VK → Prop := fun xs H Q => ∃ p ys, xs = [.ref p] ∧ (SqL K H p ys ∨ SqT K H p ys) ∧ ∀ l, H l = none → Q (.ref l) (upd H l (.lst ys))
theorem cl_listOf : CallR X (.type "list") (rListOf X.K) := call_list_of
theorem w_listOfK {p : Addr} {ys : List V} (h : SqL K H p ys) (q : ∀ l, H l = none → Q (.ref l) (upd H l (.lst ys))) : rListOf K [.ref p] H Q := ⟨p, ys, rfl, .inl h, q⟩
theorem w_max2 {i j : Int} (q : Q (.int (if j > i then j else i)) H) : (fun (xs : List V) (H : Hp) (Q : VK) => ∃ i j, xs = [.int i, .int j] ∧ Q (.int (if j > i then j else i)) H) [.int i, .int j] H Q := ⟨i, j, rfl, q⟩

theorem w_start {t : TS} {N : List Str} {vs : List V} (e : start N vs = σ) (q : t D σ H) : t D (start N vs) H := e ▸ q
theorem w_ixL {p : Addr} {xs : List V} {i : Int} {v : V} (h : H p = some (.lst xs)) (e : atI xs i = some v) (q : Q v H) : rIxL K (.ref p) (.int i) H Q := ⟨p, xs, i, v, rfl, rfl, SqL.of h, e, q⟩
theorem w_ixT {p : Addr} {xs : List V} {i : Int} {v : V} (h : H p = some (.tup xs)) (e : atI xs i = some v) (q : Q v H) : rIxT K (.ref p) (.int i) H Q := ⟨p, xs, i, v, rfl, rfl, SqT.of h, e, q⟩
theorem w_setL {R : Hp → Prop} {p : Addr} {xs : List V} {k : Int} {v : V} {j : Nat} (h : H p = some (.lst xs)) (e : ixN xs.length k = some j) (q : R (upd H p (.lst (xs.set j v)))) : rSetL (.ref p) (.int k) v H R := ⟨p, xs, k, j, rfl, rfl, h, e, q⟩
theorem w_set31 {R : Hp → Prop} {p : Addr} {a b c v : V} (h : H p = some (.lst [a, b, c])) (q : R (upd H p (.lst [a, v, c]))) : rSetL (.ref p) (.int 1) v H R := w_setL h (j := 1) rfl q
theorem w_set32 {R : Hp → Prop} {p : Addr} {a b c v : V} (h : H p = some (.lst [a, b, c])) (q : R (upd H p (.lst [a, b, v]))) : rSetL (.ref p) (.int 2) v H R := w_setL h (j := 2) rfl q
theorem w_gSub {to ti : TE} {t : TSet} {v : V} {R : L2.St → Hp → Prop} (q : to σ H fun o H1 => ti σ H1 fun i H2 => t o i v H2 fun H3 => R σ H3) : gSub to ti t v σ H R := q
/-- a branch by a test's answer -/
theorem w_ite {c A B : Prop} [Decidable c] (h1 : c → A) (h2 : ¬ c → B) : if decide c = true then A else B := by
  by_cases h : c
  · rw [if_pos (decide_eq_true h)]
    exact h1 h
  · rw [if_neg (by rw [decide_eq_false h]; exact Bool.false_ne_true)]
    exact h2 h
theorem w_iteT {A B : Prop} {b : Bool} (h : b = true) (q : A) : if b = true then A else B := by rw [if_pos h]; exact q
theorem w_iteF {A B : Prop} {b : Bool} (h : b = false) (q : B) : if b = true then A else B := by rw [if_neg (by rw [h]; exact Bool.false_ne_true)]; exact q
theorem upd_upd' {a : Addr} {o u : HO} : upd (upd H a o) a u = upd H a u := upd_upd
def CMulA (i j : Int) : Prop := CMul i j ∨ CMulW i j
theorem op_mulA : OpR X (binaryOp .Mult) (rI CMulA fun i j => .int (i * j)) := opI fun _ _ _ _ _ _ _ hc q => mul_int q (hc.elim (fun h => h.ok) fun h => h.ok)
theorem dpAll_ints {K : PySem.W.Frag} {H : Hp} : ∀ ns : List Int, DpAll K H (ns.map V.int) (ns.map PyData.int)
  | [] => .nil
  | n :: ns => .cons (.int n) (dpAll_ints ns)
theorem canLay_ints : ∀ ns : List Int, PyData.canLayAll0 (ns.map PyData.int) = true
  | [] => rfl
  | n :: ns => by
    show (PyData.canLay0 (.int n) && PyData.canLayAll0 (ns.map PyData.int)) = true
    rw [canLay_ints ns]
    rfl
theorem depth_ints : ∀ ns : List Int, PyData.depthAll (ns.map PyData.int) ≤ 1
  | [] => by decide
  | n :: ns => by
    have h := depth_ints ns
    show max (PyData.depth (.int n)) (PyData.depthAll (ns.map PyData.int)) ≤ 1
    exact Nat.max_le.mpr ⟨Nat.zero_le _, h⟩
theorem shaped_ints (ns : List Int) : SeqAt.shaped (.list (ns.map PyData.int)) = true := by
  unfold SeqAt.shaped
  rw [Bool.and_eq_true]
  refine ⟨canLay_ints ns, decide_eq_true ?_⟩
  have h := depth_ints ns
  show PyData.depthAll (ns.map PyData.int) + 1 ≤ 64
  omega
theorem w_neNil {c q : Addr} {ns : List Int} (h : H c = some (.lst (ns.map V.int))) (h2 : H q = some (.lst [])) (k : Q (.bl (!decide (ns = []))) H) : rNeD K (.ref c) (.ref q) H Q := by
  refine ⟨.list (ns.map PyData.int), .list [], .lst (SqL.of h) (dpAll_ints ns), .lst (SqL.of h2) .nil, shaped_ints ns, by decide, ?_⟩
  have e : PyData.eqv (.list (ns.map PyData.int)) (.list []) = decide (ns = []) := by
    cases ns with
    | nil => rfl
    | cons n r => rfl
  rw [e]
  exact k
theorem w_itN {c A B : Prop} [Decidable c] (h1 : ¬ c → A) (h2 : c → B) : if (!decide c) = true then A else B := by
  by_cases h : c
  · rw [decide_eq_true h]
    exact iteF (h2 h)
  · rw [decide_eq_false h]
    exact iteT (h1 h)
theorem atI_map {ns : List Int} {i : Int} (h0 : 0 ≤ i) (h1 : i < ns.length) : atI (ns.map V.int) i = some (.int (ns.getD i.toNat 0)) := by
  have h2 : i.toNat < ns.length := by omega
  unfold atI ixN
  rw [List.length_map, if_pos h0, if_pos h1]
  show (ns.map V.int)[i.toNat]? = _
  rw [List.getElem?_map, List.getElem?_eq_getElem h2]
  show some (V.int ns[i.toNat]) = some (V.int (ns.getD i.toNat 0))
  rw [List.getD_eq_getElem?_getD, List.getElem?_eq_getElem h2]
  rfl
end

/-! ## comprehensions whose element is a value of the item -/
/-- a walk over xs that leaves the heap as it is, wherever what H1 held stands -/
structure PureIt (J : It) (H1 : Hp) (xs : List V) : Prop where
  go : ∀ H', Same H1 H' → ∀ i, i < xs.length → J.go i H'
  stop : ∀ H', Same H1 H' → ∀ i, xs.length ≤ i → J.stop i H'
  yld : ∀ H', Same H1 H' → ∀ i x H'', i < xs.length → J.yld i H' x H'' → H'' = H' ∧ xs[i]? = some x
section
variable {K : PySem.W.Frag} {H1 : Hp} {σ : L2.St} {Q : VK}
theorem pureIt_list {a : Addr} {xs : List V} (h : SqL K H1 a xs) : PureIt (Itl K a) H1 xs where
  go := fun H' e i hi => ⟨xs, xs[i], e.seq h, List.getElem?_eq_getElem hi⟩
  stop := fun H' e i hi => ⟨xs, e.seq h, hi⟩
  yld := fun H' e i x H'' _ y => ⟨y.1, y.2 xs (e.seq h)⟩
theorem same_seqT {H H' : Hp} {a : Addr} {xs : List V} (e : Same H H') (h : SqT K H a xs) : SqT K H' a xs := by
  rcases h with (h | ⟨o, h⟩) | h
  · exact .inl (.inl (e _ _ h))
  · exact .inl (.inr ⟨o, e _ _ h⟩)
  · exact .inr h
theorem pureIt_tup {a : Addr} {xs : List V} (h : SqT K H1 a xs) : PureIt (Itt K a) H1 xs where
  go := fun H' e i hi => ⟨xs, xs[i], same_seqT e h, List.getElem?_eq_getElem hi⟩
  stop := fun H' e i hi => ⟨xs, same_seqT e h, hi⟩
  yld := fun H' e i x H'' _ y => ⟨y.1, y.2 xs (same_seqT e h)⟩
/-- the signs of a text, as texts -/
def signsV (z : Str) : List V := z.cps.toList.map fun c => .str ⟨#[c]⟩
theorem pureIt_str {z : Str} : PureIt (Its z) H1 (signsV z) where
  go := fun H' _ i hi => by
    have : (signsV z).length = z.cps.size := by simp [signsV]
    show i < z.cps.size
    omega
  stop := fun H' _ i hi => by
    have : (signsV z).length = z.cps.size := by simp [signsV]
    show z.cps.size ≤ i
    omega
  yld := fun H' _ i x H'' _ y => by
    obtain ⟨e, c, h1, rfl⟩ := y
    refine ⟨e, ?_⟩
    unfold signsV
    rw [List.getElem?_map, Array.getElem?_toList, h1]
    rfl
/-- the ints of a range -/
def rangeV (lo : Int) (n : Nat) : List V := (List.range n).map fun (i : Nat) => .int (lo + i)
theorem pureIt_rng {lo : Int} {n : Nat} : PureIt (Itr lo n) H1 (rangeV lo n) where
  go := fun H' _ i hi => by
    have : (rangeV lo n).length = n := by simp [rangeV]
    show i < n
    omega
  stop := fun H' _ i hi => by
    have : (rangeV lo n).length = n := by simp [rangeV]
    show n ≤ i
    omega
  yld := fun H' _ i x H'' hi y => by
    have e : (rangeV lo n).length = n := by simp [rangeV]
    refine ⟨y.1, ?_⟩
    rw [y.2]
    unfold rangeV
    rw [List.getElem?_map, List.getElem?_range (by omega)]
    rfl
theorem same_new {H' : Hp} {D : Addr} {o : HO} (h : H1 D = none) (e : Same H1 H') : Same H1 (upd H' D o) := fun b u hb => by
  rw [upd_ne (ne_of_none hb h)]
  exact e b u hb
/-- [e for x in xs if t]: p and f say what the test and the element are worth; anything may be made on the way -/
theorem lcI_by {J : It} {xs : List V} {k : Nat} {tt : TT} {te : TE} {vs : List Nat} (p : V → Bool) (f : V → V) (hJ : PureIt J H1 xs) (hl : xs.length ≤ sizeLine)
    (ht : ∀ x ∈ xs, ∀ H', Same H1 H' → ∀ R : Bool → Hp → Prop, (∀ H'', Same H' H'' → R (p x) H'') → tt ((wipe σ vs).set k (some x)) H' R)
    (hel : ∀ x ∈ xs, p x = true → ∀ H', Same H1 H' → ∀ R : VK, (∀ H'', Same H' H'' → R (f x) H'') → te ((wipe σ vs).set k (some x)) H' R)
    (q : ∀ D H', H1 D = none → Same H1 H' → H' D = some (.lst ((xs.filter p).map f)) → Q (.ref D) H') (hw : ∀ v, wipe ((wipe σ vs).set k (some v)) vs = wipe σ vs := by intro _; rfl) :
    ∀ D, H1 D = none → ∃ W : Nat → Nat → Hp → Prop, (∃ m, W 0 m (upd H1 D (.lst []))) ∧ ∀ i m H, W i m H →
      (J.stop i H ∧ Q (.ref D) H) ∨ (J.go i H ∧ ∃ Nx : Hp → Prop, (∀ H', Nx H' → ∃ m', m' < m ∧ W (i + 1) m' H') ∧ ∀ x H', J.yld i H x H' → gName k x (wipe σ vs) H' fun σ2 H2 => wipe σ2 vs = wipe σ vs ∧ tt σ2 H2 fun b H3 =>
        if b = true then te σ2 H3 fun y H4 => ∃ acc, H4 D = some (.lst acc) ∧ acc.length < sizeLine ∧ Nx (upd H4 D (.lst (acc ++ [y]))) else Nx H3) := by
  intro D hD
  refine ⟨fun i m H => m = xs.length - i ∧ i ≤ xs.length ∧ Same H1 H ∧ H D = some (.lst (((xs.take i).filter p).map f)), ⟨xs.length, by simp, Nat.zero_le _, same_new hD (Same.refl H1), upd_same⟩, ?_⟩
  rintro i m H ⟨rfl, hi, e, hd⟩
  by_cases hlt : i < xs.length
  · refine .inr ⟨hJ.go H e i hlt, fun H' => Same H1 H' ∧ H' D = some (.lst (((xs.take (i + 1)).filter p).map f)), fun H' ⟨e', d'⟩ => ⟨xs.length - (i + 1), by omega, rfl, hlt, e', d'⟩, fun x H' y => ?_⟩
    obtain ⟨rfl, hx⟩ := hJ.yld H e i x H' hlt y
    have hm : x ∈ xs := List.mem_of_getElem? hx
    have htk : xs.take (i + 1) = xs.take i ++ [x] := by rw [List.take_add_one, hx]; rfl
    refine ⟨hw x, ht x hm H' e _ fun H2 e2 => ?_⟩
    cases hp : p x with
    | true =>
      rw [if_pos rfl]
      refine hel x hm hp H2 (e.trans e2) _ fun H3 e3 => ⟨((xs.take i).filter p).map f, e3 _ _ (e2 _ _ hd), ?_, ?_, ?_⟩
      · have h1 : ((xs.take i).filter p).length ≤ (xs.take i).length := List.length_filter_le ..
        rw [List.length_map]
        rw [List.length_take] at h1
        omega
      · exact same_new hD ((e.trans e2).trans e3)
      · rw [upd_same, htk, List.filter_append, List.map_append, List.filter_cons, hp]
        rfl
    | false =>
      rw [if_neg Bool.false_ne_true]
      refine ⟨e.trans e2, ?_⟩
      rw [e2 _ _ hd, htk, List.filter_append, List.filter_cons, hp]
      simp
  · have hi' : i = xs.length := by omega
    subst hi'
    refine .inl ⟨hJ.stop H e _ (Nat.le_refl _), q D H hD e ?_⟩
    rw [hd, List.take_length]
/-- without a test -/
theorem lcI_map {J : It} {xs : List V} {k : Nat} {te : TE} {vs : List Nat} (f : V → V) (hJ : PureIt J H1 xs) (hl : xs.length ≤ sizeLine)
    (hel : ∀ x ∈ xs, ∀ H', Same H1 H' → ∀ R : VK, (∀ H'', Same H' H'' → R (f x) H'') → te ((wipe σ vs).set k (some x)) H' R)
    (q : ∀ D H', H1 D = none → Same H1 H' → H' D = some (.lst (xs.map f)) → Q (.ref D) H') (hw : ∀ v, wipe ((wipe σ vs).set k (some v)) vs = wipe σ vs := by intro _; rfl) :
    ∀ D, H1 D = none → ∃ W : Nat → Nat → Hp → Prop, (∃ m, W 0 m (upd H1 D (.lst []))) ∧ ∀ i m H, W i m H →
      (J.stop i H ∧ Q (.ref D) H) ∨ (J.go i H ∧ ∃ Nx : Hp → Prop, (∀ H', Nx H' → ∃ m', m' < m ∧ W (i + 1) m' H') ∧ ∀ x H', J.yld i H x H' → gName k x (wipe σ vs) H' fun σ2 H2 => wipe σ2 vs = wipe σ vs ∧ tYes σ2 H2 fun b H3 =>
        if b = true then te σ2 H3 fun y H4 => ∃ acc, H4 D = some (.lst acc) ∧ acc.length < sizeLine ∧ Nx (upd H4 D (.lst (acc ++ [y]))) else Nx H3) :=
  lcI_by (fun _ => true) f hJ hl (fun _ _ H' _ R hR => hR H' (Same.refl H')) (fun x hm _ => hel x hm) (fun D H' h1 h2 h3 => q D H' h1 h2 (by rw [h3, List.filter_eq_self.mpr fun _ _ => rfl])) hw
theorem w_lc {wi : TI} {g : TG} {tt : TT} {te : TE} {vs : List Nat} {H : Hp} (q : wi σ H fun J H1 => ∀ D, H1 D = none → ∃ W : Nat → Nat → Hp → Prop, (∃ m, W 0 m (upd H1 D (.lst []))) ∧ ∀ i m H, W i m H →
      (J.stop i H ∧ Q (.ref D) H) ∨ (J.go i H ∧ ∃ Nx : Hp → Prop, (∀ H', Nx H' → ∃ m', m' < m ∧ W (i + 1) m' H') ∧ ∀ x H', J.yld i H x H' → g x (wipe σ vs) H' fun σ2 H2 => wipe σ2 vs = wipe σ vs ∧ tt σ2 H2 fun b H3 =>
        if b = true then te σ2 H3 fun y H4 => ∃ acc, H4 D = some (.lst acc) ∧ acc.length < sizeLine ∧ Nx (upd H4 D (.lst (acc ++ [y]))) else Nx H3)) : tLc wi g tt te vs σ H Q := q
theorem w_iStr {te : TE} {R : It → Hp → Prop} {H : Hp} (q : te σ H fun v H1 => ∃ x, v = .str x ∧ R (Its x) H1) : iStr te σ H R := q
theorem w_str {a : Str} {P : Str → Prop} (q : P a) : ∃ i, V.str a = .str i ∧ P i := ⟨a, rfl, q⟩
theorem w_iRng1 {ta : TA} {R : It → Hp → Prop} {H : Hp} (q : ta σ H fun vs H1 => ∃ j : Int, vs = [.int j] ∧ -(2 ^ 62) ≤ j ∧ j < 2 ^ 62 ∧ R (Itr 0 j.toNat) H1) : iRng1 ta σ H R := q
theorem w_rng1 {j : Int} {P : Int → Prop} (h : -(2 ^ 62) ≤ j ∧ j < 2 ^ 62) (q : P j) : ∃ i : Int, [V.int j] = [.int i] ∧ -(2 ^ 62) ≤ i ∧ i < 2 ^ 62 ∧ P i := ⟨j, rfl, h.1, h.2, q⟩
theorem w_iRng2 {ta : TA} {R : It → Hp → Prop} {H : Hp} (q : ta σ H fun vs H1 => ∃ i j : Int, vs = [.int i, .int j] ∧ (-(2 ^ 62) ≤ i ∧ i < 2 ^ 62 ∧ -(2 ^ 62) ≤ j ∧ j < 2 ^ 62) ∧ R (Itr i (j - i).toNat) H1) : iRng2 ta σ H R := q
theorem w_rng2 {a b : Int} {P : Int → Int → Prop} (h : -(2 ^ 62) ≤ a ∧ a < 2 ^ 62 ∧ -(2 ^ 62) ≤ b ∧ b < 2 ^ 62) (q : P a b) : ∃ i j : Int, [V.int a, V.int b] = [.int i, .int j] ∧ (-(2 ^ 62) ≤ i ∧ i < 2 ^ 62 ∧ -(2 ^ 62) ≤ j ∧ j < 2 ^ 62) ∧ P i j := ⟨a, b, rfl, h, q⟩
theorem w_iList {tl : TE} {R : It → Hp → Prop} {H : Hp} (q : tl σ H fun x H1 => ∃ a, x = .ref a ∧ (∃ xs, SqL K H1 a xs) ∧ R (Itl K a) H1) : iList K tl σ H R := q
theorem w_lstAt {H : Hp} {p : Addr} {xs : List V} {P : Addr → Prop} (h : H p = some (.lst xs)) (q : P p) : ∃ a, V.ref p = .ref a ∧ (∃ xs, SqL K H a xs) ∧ P a := ⟨p, rfl, ⟨xs, SqL.of h⟩, q⟩
theorem w_iTup {tl : TE} {R : It → Hp → Prop} {H : Hp} (q : tl σ H fun x H1 => ∃ a, x = .ref a ∧ (∃ xs, SqT K H1 a xs) ∧ R (Itt K a) H1) : iTup K tl σ H R := q
theorem w_tupAt {H : Hp} {p : Addr} {xs : List V} {P : Addr → Prop} (h : H p = some (.tup xs)) (q : P p) : ∃ a, V.ref p = .ref a ∧ (∃ xs, SqT K H a xs) ∧ P a := ⟨p, rfl, ⟨xs, SqT.of h⟩, q⟩
theorem w_for {wi : TI} {g : TG} {tb : TS} {D : Ends} {H : Hp} (q : wi σ H fun J H1 => ∃ W : Nat → Nat → L2.St → Hp → Prop, (∃ m, W 0 m σ H1) ∧ ∀ i m σ H, W i m σ H →
  (J.stop i H ∧ D.nx σ H) ∨ (J.go i H ∧ ∃ N : L2.St → Hp → Prop, (∀ σ' H', N σ' H' → ∃ m', m' < m ∧ W (i + 1) m' σ' H') ∧ ∀ x H', J.yld i H x H' → g x σ H' fun σ2 H2 => tb { D with nx := N, ct := N, bk := D.nx } σ2 H2)) : tFor wi g tb D σ H := q
/-- all([..]), any([..]) of a new list of bools -/
theorem w_all {p : Addr} {bs : List Bool} {H : Hp} (h : H p = some (.lst (bs.map V.bl))) (q : Q (.bl (bs.all id)) H) : rAll K [.ref p] H Q := ⟨p, bs, rfl, SqL.of h, q⟩
theorem w_any {p : Addr} {bs : List Bool} {H : Hp} (h : H p = some (.lst (bs.map V.bl))) (q : Q (.bl (bs.any id)) H) : rAny K [.ref p] H Q := ⟨p, bs, rfl, SqL.of h, q⟩
theorem w_slS {z : Str} {lo hi : Option Int} {H : Hp} (h : z.length ≤ sizeLine) (q : Q (.str (cutS z lo hi)) H) : rSlS (.str z) lo hi H Q := ⟨z, rfl, h, q⟩
theorem w_slL {a : Addr} {xs : List V} {lo hi : Option Int} {H : Hp} (h : SqL K H a xs) (q : ∀ p, H p = none → Q (.ref p) (upd H p (.lst (cutV xs lo hi)))) : rSlL K (.ref a) lo hi H Q := ⟨a, xs, rfl, h, q⟩
end

/-! ## values of built-in kinds -/
inductive BV (H : Hp) : V → String → Prop
  | non : BV H .non "NoneType"
  | bl (b : Bool) : BV H (.bl b) "bool"
  | int (i : Int) : BV H (.int i) "int"
  | str (z : Str) : BV H (.str z) "str"
  | lst {a : Addr} {xs : List V} (h : H a = some (.lst xs)) : BV H (.ref a) "list"
  | tup {a : Addr} {xs : List V} (h : H a = some (.tup xs)) : BV H (.ref a) "tuple"
  | dK {a : Addr} {kvs : List (Key × V)} (h : H a = some (.dK kvs)) : BV H (.ref a) "dict"
theorem BV.ty {K : PySem.W.Frag} {H : Hp} {x : V} {n : String} (b : BV H x n) : TyX K H x (.type n) := by
  cases b with
  | non => exact .base .non
  | bl b => exact .base (.bl b)
  | int i => exact .base (.int i)
  | str z => exact .base (.str z)
  | lst h => exact .base (.lst h)
  | tup h => exact .base (.tup h)
  | dK h => exact .base (.dK h)
theorem BV.same {H H' : Hp} {x : V} {n : String} (e : Same H H') (b : BV H x n) : BV H' x n := by
  cases b with
  | non => exact .non
  | bl b => exact .bl b
  | int i => exact .int i
  | str z => exact .str z
  | lst h => exact .lst (e _ _ h)
  | tup h => exact .tup (e _ _ h)
  | dK h => exact .dK (e _ _ h)
section
variable {K : PySem.W.Frag} {H : Hp} {Q : VK} {x : V} {n : String}
theorem w_isi {c : String} {k : Bool} (b : BV H x n) (e : PySem.W.kitOne K (.type n) (.type c) = some k) (q : Q (.bl k) H) : rIsi K [x, .ty c] H Q := ⟨x, .ty c, .type n, .type c, k, rfl, .ty c, b.ty, e, q⟩
theorem w_isiInt (b : BV H x n) (q : Q (.bl (n == "int" || n == "bool")) H) : rIsi K [x, .ty "int"] H Q := by
  refine w_isi b (k := (n == "int" || n == "bool")) ?_ q
  cases b <;> exact kit_ty (by decide +kernel)
theorem w_isiBool (b : BV H x n) (q : Q (.bl (n == "bool")) H) : rIsi K [x, .ty "bool"] H Q := by
  refine w_isi b (k := (n == "bool")) ?_ q
  cases b <;> exact kit_ty (by decide +kernel)
theorem w_isiStr (b : BV H x n) (q : Q (.bl (n == "str")) H) : rIsi K [x, .ty "str"] H Q := by
  refine w_isi b (k := (n == "str")) ?_ q
  cases b <;> exact kit_ty (by decide +kernel)
end
def isIntV : V → Bool
  | .int _ => true
  | _ => false
def betV (lo hi : Int) : V → Bool
  | .int i => decide (lo ≤ i) && decide (i ≤ hi)
  | _ => false

/-! ## comprehensions over a text's signs, over a range -/
section
variable {H1 : Hp} {σ : L2.St} {Q : VK}
theorem lcI_strBy {z : Str} {k : Nat} {tt : TT} {te : TE} {vs : List Nat} (p : Nat → Bool) (f : Nat → V) (hl : z.length ≤ sizeLine)
    (ht : ∀ c ∈ z.cps.toList, ∀ H', Same H1 H' → ∀ R : Bool → Hp → Prop, (∀ H'', Same H' H'' → R (p c) H'') → tt ((wipe σ vs).set k (some (.str ⟨#[c]⟩))) H' R)
    (hel : ∀ c ∈ z.cps.toList, p c = true → ∀ H', Same H1 H' → ∀ R : VK, (∀ H'', Same H' H'' → R (f c) H'') → te ((wipe σ vs).set k (some (.str ⟨#[c]⟩))) H' R)
    (q : ∀ D H', H1 D = none → Same H1 H' → H' D = some (.lst ((z.cps.toList.filter p).map f)) → Q (.ref D) H') (hw : ∀ v, wipe ((wipe σ vs).set k (some v)) vs = wipe σ vs := by intro _; rfl) :
    ∀ D, H1 D = none → ∃ W : Nat → Nat → Hp → Prop, (∃ m, W 0 m (upd H1 D (.lst []))) ∧ ∀ i m H, W i m H →
      ((Its z).stop i H ∧ Q (.ref D) H) ∨ ((Its z).go i H ∧ ∃ Nx : Hp → Prop, (∀ H', Nx H' → ∃ m', m' < m ∧ W (i + 1) m' H') ∧ ∀ x H', (Its z).yld i H x H' → gName k x (wipe σ vs) H' fun σ2 H2 => wipe σ2 vs = wipe σ vs ∧ tt σ2 H2 fun b H3 =>
        if b = true then te σ2 H3 fun y H4 => ∃ acc, H4 D = some (.lst acc) ∧ acc.length < sizeLine ∧ Nx (upd H4 D (.lst (acc ++ [y]))) else Nx H3) := by
  let pV : V → Bool := fun x => match x with | .str s => p (s.cps.toList.headD 0) | _ => true
  let fV : V → V := fun x => match x with | .str s => f (s.cps.toList.headD 0) | _ => .non
  have hm : ∀ x ∈ signsV z, ∃ c ∈ z.cps.toList, x = .str ⟨#[c]⟩ := fun x hx => by
    obtain ⟨c, h1, h2⟩ := List.mem_map.mp hx
    exact ⟨c, h1, h2.symm⟩
  have e : ∀ l : List Nat, ((l.map fun c => V.str ⟨#[c]⟩).filter pV).map fV = (l.filter p).map f := fun l => by
    induction l with
    | nil => rfl
    | cons c l ih =>
      rw [List.map_cons, List.filter_cons, List.filter_cons]
      have h1 : pV (.str ⟨#[c]⟩) = p c := rfl
      rw [h1]
      cases p c with
      | true => rw [if_pos rfl, if_pos rfl, List.map_cons, List.map_cons, ih]; rfl
      | false => rw [if_neg Bool.false_ne_true, if_neg Bool.false_ne_true, ih]
  refine lcI_by pV fV pureIt_str (by rw [show (signsV z).length = z.length by simp [signsV, PySem.Str.length]]; exact hl) (fun x hx H' e1 R hR => ?_) (fun x hx hp H' e1 R hR => ?_) (fun D H' h1 h2 h3 => q D H' h1 h2 (by rw [h3]; exact congrArg (fun l => some (HO.lst l)) (e _))) hw
  · obtain ⟨c, hc, rfl⟩ := hm x hx
    exact ht c hc H' e1 R hR
  · obtain ⟨c, hc, rfl⟩ := hm x hx
    exact hel c hc hp H' e1 R hR
theorem lcI_str {z : Str} {k : Nat} {te : TE} {vs : List Nat} (f : Nat → V) (hl : z.length ≤ sizeLine)
    (hel : ∀ c ∈ z.cps.toList, ∀ H', Same H1 H' → ∀ R : VK, (∀ H'', Same H' H'' → R (f c) H'') → te ((wipe σ vs).set k (some (.str ⟨#[c]⟩))) H' R)
    (q : ∀ D H', H1 D = none → Same H1 H' → H' D = some (.lst (z.cps.toList.map f)) → Q (.ref D) H') (hw : ∀ v, wipe ((wipe σ vs).set k (some v)) vs = wipe σ vs := by intro _; rfl) :
    ∀ D, H1 D = none → ∃ W : Nat → Nat → Hp → Prop, (∃ m, W 0 m (upd H1 D (.lst []))) ∧ ∀ i m H, W i m H →
      ((Its z).stop i H ∧ Q (.ref D) H) ∨ ((Its z).go i H ∧ ∃ Nx : Hp → Prop, (∀ H', Nx H' → ∃ m', m' < m ∧ W (i + 1) m' H') ∧ ∀ x H', (Its z).yld i H x H' → gName k x (wipe σ vs) H' fun σ2 H2 => wipe σ2 vs = wipe σ vs ∧ tYes σ2 H2 fun b H3 =>
        if b = true then te σ2 H3 fun y H4 => ∃ acc, H4 D = some (.lst acc) ∧ acc.length < sizeLine ∧ Nx (upd H4 D (.lst (acc ++ [y]))) else Nx H3) :=
  lcI_strBy (fun _ => true) f hl (fun _ _ H' _ R hR => hR H' (Same.refl H')) (fun c hc _ => hel c hc) (fun D H' h1 h2 h3 => q D H' h1 h2 (by rw [h3, List.filter_eq_self.mpr fun _ _ => rfl])) hw
theorem lcI_rng {lo : Int} {n : Nat} {k : Nat} {te : TE} {vs : List Nat} (f : Nat → V) (hl : n ≤ sizeLine)
    (hel : ∀ i, i < n → ∀ H', Same H1 H' → ∀ R : VK, (∀ H'', Same H' H'' → R (f i) H'') → te ((wipe σ vs).set k (some (.int (lo + i)))) H' R)
    (q : ∀ D H', H1 D = none → Same H1 H' → H' D = some (.lst ((List.range n).map f)) → Q (.ref D) H') (hw : ∀ v, wipe ((wipe σ vs).set k (some v)) vs = wipe σ vs := by intro _; rfl) :
    ∀ D, H1 D = none → ∃ W : Nat → Nat → Hp → Prop, (∃ m, W 0 m (upd H1 D (.lst []))) ∧ ∀ i m H, W i m H →
      ((Itr lo n).stop i H ∧ Q (.ref D) H) ∨ ((Itr lo n).go i H ∧ ∃ Nx : Hp → Prop, (∀ H', Nx H' → ∃ m', m' < m ∧ W (i + 1) m' H') ∧ ∀ x H', (Itr lo n).yld i H x H' → gName k x (wipe σ vs) H' fun σ2 H2 => wipe σ2 vs = wipe σ vs ∧ tYes σ2 H2 fun b H3 =>
        if b = true then te σ2 H3 fun y H4 => ∃ acc, H4 D = some (.lst acc) ∧ acc.length < sizeLine ∧ Nx (upd H4 D (.lst (acc ++ [y]))) else Nx H3) := by
  let fV : V → V := fun x => match x with | .int i => f (i - lo).toNat | _ => .non
  refine lcI_map fV pureIt_rng (by simpa [rangeV] using hl) (fun x hx H' e1 R hR => ?_) (fun D H' h1 h2 h3 => q D H' h1 h2 ?_) hw
  · obtain ⟨i, hi, rfl⟩ := List.mem_map.mp hx
    have hi' : i < n := List.mem_range.mp hi
    have e : fV (.int (lo + (i : Int))) = f i := by
      show f (lo + (i : Int) - lo).toNat = f i
      congr 1
      omega
    rw [e] at hR
    exact hel i hi' H' e1 R hR
  · rw [h3]
    unfold rangeV
    rw [List.map_map]
    congr 2
    refine List.map_congr_left fun i _ => ?_
    show f (lo + (i : Int) - lo).toNat = f i
    congr 1
    omega
end
/-! ## .. the whole comprehension: ts is its source's reading, hs what it gives -/
section
variable {K : PySem.W.Frag} {σ : L2.St} {Q : VK} {k : Nat} {tt : TT} {te ts : TE} {vs : List Nat} {H : Hp}
theorem lc_strBy (H1 : Hp) (z : Str) (p : Nat → Bool) (f : Nat → V) (hs : ∀ R : VK, R (.str z) H1 → ts σ H R) (hl : z.length ≤ sizeLine)
    (ht : ∀ c ∈ z.cps.toList, ∀ H', Same H1 H' → ∀ R : Bool → Hp → Prop, (∀ H'', Same H' H'' → R (p c) H'') → tt ((wipe σ vs).set k (some (.str ⟨#[c]⟩))) H' R)
    (hel : ∀ c ∈ z.cps.toList, p c = true → ∀ H', Same H1 H' → ∀ R : VK, (∀ H'', Same H' H'' → R (f c) H'') → te ((wipe σ vs).set k (some (.str ⟨#[c]⟩))) H' R)
    (q : ∀ D H', H1 D = none → Same H1 H' → H' D = some (.lst ((z.cps.toList.filter p).map f)) → Q (.ref D) H') (hw : ∀ v, wipe ((wipe σ vs).set k (some v)) vs = wipe σ vs := by intro _; rfl) :
    tLc (iStr ts) (gName k) tt te vs σ H Q := hs _ ⟨z, rfl, lcI_strBy p f hl ht hel q hw⟩
theorem lc_str (H1 : Hp) (z : Str) (f : Nat → V) (hs : ∀ R : VK, R (.str z) H1 → ts σ H R) (hl : z.length ≤ sizeLine)
    (hel : ∀ c ∈ z.cps.toList, ∀ H', Same H1 H' → ∀ R : VK, (∀ H'', Same H' H'' → R (f c) H'') → te ((wipe σ vs).set k (some (.str ⟨#[c]⟩))) H' R)
    (q : ∀ D H', H1 D = none → Same H1 H' → H' D = some (.lst (z.cps.toList.map f)) → Q (.ref D) H') (hw : ∀ v, wipe ((wipe σ vs).set k (some v)) vs = wipe σ vs := by intro _; rfl) :
    tLc (iStr ts) (gName k) tYes te vs σ H Q := hs _ ⟨z, rfl, lcI_str f hl hel q hw⟩
theorem lc_rng1 {ta : TA} (H1 : Hp) (n : Nat) (f : Nat → V) (hs : ∀ R : List V → Hp → Prop, R [.int (n : Int)] H1 → ta σ H R) (hl : n ≤ sizeLine)
    (hel : ∀ i, i < n → ∀ H', Same H1 H' → ∀ R : VK, (∀ H'', Same H' H'' → R (f i) H'') → te ((wipe σ vs).set k (some (.int (0 + (i : Int))))) H' R)
    (q : ∀ D H', H1 D = none → Same H1 H' → H' D = some (.lst ((List.range n).map f)) → Q (.ref D) H') (hw : ∀ v, wipe ((wipe σ vs).set k (some v)) vs = wipe σ vs := by intro _; rfl) :
    tLc (iRng1 ta) (gName k) tYes te vs σ H Q := by
  have h1 : (n : Int) ≤ 16777216 := by
    have := sizeLine_eq
    omega
  exact hs _ ⟨n, rfl, by omega, by omega, lcI_rng f hl hel q hw⟩
theorem lc_list (H1 : Hp) (a : Addr) (xs : List V) (f : V → V) (hs : ∀ R : VK, R (.ref a) H1 → ts σ H R) (ha : SqL K H1 a xs) (hl : xs.length ≤ sizeLine)
    (hel : ∀ x ∈ xs, ∀ H', Same H1 H' → ∀ R : VK, (∀ H'', Same H' H'' → R (f x) H'') → te ((wipe σ vs).set k (some x)) H' R)
    (q : ∀ D H', H1 D = none → Same H1 H' → H' D = some (.lst (xs.map f)) → Q (.ref D) H') (hw : ∀ v, wipe ((wipe σ vs).set k (some v)) vs = wipe σ vs := by intro _; rfl) :
    tLc (iList K ts) (gName k) tYes te vs σ H Q := hs _ ⟨a, rfl, ⟨xs, ha⟩, lcI_map f (pureIt_list ha) hl hel q hw⟩
theorem lc_listBy (H1 : Hp) (a : Addr) (xs : List V) (p : V → Bool) (f : V → V) (hs : ∀ R : VK, R (.ref a) H1 → ts σ H R) (ha : SqL K H1 a xs) (hl : xs.length ≤ sizeLine)
    (ht : ∀ x ∈ xs, ∀ H', Same H1 H' → ∀ R : Bool → Hp → Prop, (∀ H'', Same H' H'' → R (p x) H'') → tt ((wipe σ vs).set k (some x)) H' R)
    (hel : ∀ x ∈ xs, p x = true → ∀ H', Same H1 H' → ∀ R : VK, (∀ H'', Same H' H'' → R (f x) H'') → te ((wipe σ vs).set k (some x)) H' R)
    (q : ∀ D H', H1 D = none → Same H1 H' → H' D = some (.lst ((xs.filter p).map f)) → Q (.ref D) H') (hw : ∀ v, wipe ((wipe σ vs).set k (some v)) vs = wipe σ vs := by intro _; rfl) :
    tLc (iList K ts) (gName k) tt te vs σ H Q := hs _ ⟨a, rfl, ⟨xs, ha⟩, lcI_by p f (pureIt_list ha) hl ht hel q hw⟩
theorem lc_tup (H1 : Hp) (a : Addr) (xs : List V) (f : V → V) (hs : ∀ R : VK, R (.ref a) H1 → ts σ H R) (ha : SqT K H1 a xs) (hl : xs.length ≤ sizeLine)
    (hel : ∀ x ∈ xs, ∀ H', Same H1 H' → ∀ R : VK, (∀ H'', Same H' H'' → R (f x) H'') → te ((wipe σ vs).set k (some x)) H' R)
    (q : ∀ D H', H1 D = none → Same H1 H' → H' D = some (.lst (xs.map f)) → Q (.ref D) H') (hw : ∀ v, wipe ((wipe σ vs).set k (some v)) vs = wipe σ vs := by intro _; rfl) :
    tLc (iTup K ts) (gName k) tYes te vs σ H Q := hs _ ⟨a, rfl, ⟨xs, ha⟩, lcI_map f (pureIt_tup ha) hl hel q hw⟩
end
/-! ## len of anything, an item of anything -/
section
variable {X : Cx} {K : PySem.W.Frag} {H : Hp} {Q : VK}
def rLenA (K : PySem.W.Frag) : List V → Hp → VK → Prop := fun xs H Q => ∃ x n, xs = [x] ∧ LenV K x H n ∧ Q (.int n) H
theorem cl_lenA : CallR X (.builtin "len") (rLenA X.K) := call_len
/-- a list, a tuple or a text, by its items -/
inductive Row (K : PySem.W.Frag) (H : Hp) : V → List V → Prop
  | lst {a : Addr} {xs : List V} (h : SqL K H a xs) : Row K H (.ref a) xs
  | tup {a : Addr} {xs : List V} (h : SqT K H a xs) : Row K H (.ref a) xs
  | str {z : Str} (h : z.length ≤ sizeLine) : Row K H (.str z) (signsV z)
theorem w_lenA {x : V} {xs : List V} (r : Row K H x xs) (q : Q (.int xs.length) H) : rLenA K [x] H Q := by
  cases r with
  | lst h => exact ⟨_, _, rfl, .inl ⟨_, h, rfl⟩, q⟩
  | tup h => exact ⟨_, _, rfl, .inr ⟨_, h, rfl⟩, q⟩
  | @str z h =>
    refine ⟨_, z.length, rfl, ⟨h, rfl⟩, ?_⟩
    have e : (signsV z).length = z.length := by simp [signsV, PySem.Str.length]
    rw [e] at q
    exact q
theorem atI_get {α : Type} {xs : List α} {i : Int} (h0 : 0 ≤ i) (h1 : i < xs.length) : ∃ v, atI xs i = some v ∧ xs[i.toNat]? = some v := by
  have h2 : i.toNat < xs.length := by omega
  refine ⟨xs[i.toNat], ?_, List.getElem?_eq_getElem h2⟩
  unfold atI ixN
  rw [if_pos h0, if_pos h1]
  exact List.getElem?_eq_getElem h2
theorem w_ixA {x : V} {xs : List V} {i : Int} (r : Row K H x xs) (h0 : 0 ≤ i) (h1 : i < xs.length) (q : ∀ v, v ∈ xs → xs[i.toNat]? = some v → Q v H) : rIx K x (.int i) H Q := by
  cases r with
  | lst h =>
    obtain ⟨v, e, e2⟩ := atI_get h0 h1
    exact .inl ⟨_, _, _, v, rfl, rfl, h, e, q v (List.mem_of_getElem? e2) e2⟩
  | tup h =>
    obtain ⟨v, e, e2⟩ := atI_get h0 h1
    exact .inr (.inl ⟨_, _, _, v, rfl, rfl, h, e, q v (List.mem_of_getElem? e2) e2⟩)
  | @str z h =>
    have h2 : i < z.cps.toList.length := by simpa [signsV] using h1
    obtain ⟨c, e, e2⟩ := atI_get h0 h2
    have e3 : (signsV z)[i.toNat]? = some (.str ⟨#[c]⟩) := by
      unfold signsV
      rw [List.getElem?_map, e2]
      rfl
    exact .inr (.inr ⟨z, i, c, rfl, rfl, h, e, q _ (List.mem_of_getElem? e3) e3⟩)
end
theorem eqS (a b : List Nat) : decide (V.str (SX.S a) = V.str (SX.S b)) = decide (a = b) := by
  by_cases h : a = b
  · subst h
    simp
  · rw [decide_eq_false h, decide_eq_false fun e => h (SX.S_inj (by injection e))]
/-! ## texts by their codes -/
theorem sx_len (l : List Nat) : (SX.S l).length = l.length := SX.S_len l
theorem cutS_to {l : List Nat} {k : Int} (h : 0 ≤ k) : cutS (SX.S l) none (some k) = SX.S (l.take k.toNat) := (C8.cutS_slice _ _ _).trans (SX.slice_to h)
theorem cutS_from {l : List Nat} {k : Int} (h : 0 ≤ k) : cutS (SX.S l) (some k) none = SX.S (l.drop k.toNat) := (C8.cutS_slice _ _ _).trans (SX.slice_from h)

theorem dpAll_signs {K : PySem.W.Frag} {H : Hp} : ∀ cs : List Nat, DpAll K H (cs.map fun c => V.str ⟨#[c]⟩) (cs.map fun c => PyData.str ⟨#[c]⟩)
  | [] => .nil
  | c :: cs => .cons (.str _) (dpAll_signs cs)
theorem shaped_signs {cs : List Nat} (h : ∀ c ∈ cs, c < 128) : SeqAt.shaped (.list (cs.map fun c => PyData.str ⟨#[c]⟩)) = true := by
  unfold SeqAt.shaped
  rw [Bool.and_eq_true]
  constructor
  · show PyData.canLayAll0 (cs.map fun c => PyData.str ⟨#[c]⟩) = true
    induction cs with
    | nil => rfl
    | cons c cs ih =>
      show (PyData.canLay0 (.str ⟨#[c]⟩) && PyData.canLayAll0 (cs.map fun c => PyData.str ⟨#[c]⟩)) = true
      rw [ih fun d hd => h d (List.mem_cons_of_mem _ hd), Bool.and_true]
      show (#[c] : Array Nat).all (· < 0x110000) = true
      have := h c List.mem_cons_self
      simp
      omega
  · refine decide_eq_true ?_
    show PyData.depthAll (cs.map fun c => PyData.str ⟨#[c]⟩) + 1 ≤ 64
    have e : ∀ l : List Nat, PyData.depthAll (l.map fun c => PyData.str ⟨#[c]⟩) = 0 := fun l => by
      induction l with
      | nil => rfl
      | cons c l ih =>
        show max (PyData.depth (.str ⟨#[c]⟩)) (PyData.depthAll (l.map fun c => PyData.str ⟨#[c]⟩)) = 0
        rw [ih]
        rfl
    rw [e]
    decide
theorem w_neNilS {K : PySem.W.Frag} {H : Hp} {Q : VK} {c q : Addr} {cs : List Nat} (h : H c = some (.lst (cs.map fun c => V.str ⟨#[c]⟩))) (h2 : H q = some (.lst [])) (hs : ∀ c ∈ cs, c < 128) (k : Q (.bl (!decide (cs = []))) H) : rNeD K (.ref c) (.ref q) H Q := by
  refine ⟨.list (cs.map fun c => .str ⟨#[c]⟩), .list [], .lst (SqL.of h) (dpAll_signs cs), .lst (SqL.of h2) .nil, shaped_signs hs, by decide, ?_⟩
  have e : PyData.eqv (.list (cs.map fun c => PyData.str ⟨#[c]⟩)) (.list []) = decide (cs = []) := by
    cases cs with
    | nil => rfl
    | cons n r => rfl
  rw [e]
  exact k
theorem addlen {a b : Str} (ha : a.length ≤ 1000000) (hb : b.length ≤ 1000000) : a.length + b.length ≤ sizeLine := by
  have := sizeLine_eq
  omega
theorem w_mulS {H : Hp} {Q : VK} {z : Str} {n : Int} (h : 2 ≤ n ∧ n ≤ 100000 ∧ 0 < z.length ∧ z.length * n.toNat ≤ sizeLine) (q : Q (.str ⟨(List.replicate n.toNat z.cps).foldl (· ++ ·) #[]⟩) H) : rMulS (.str z) (.int n) H Q := ⟨z, n, rfl, rfl, h, q⟩
/-- data equal to itself -/
theorem w_eqD {K : PySem.W.Frag} {H : Hp} {Q : VK} {x y : V} {d e : PyData} {b : Bool} (hd : Dp K H x d) (he : Dp K H y e) (sd : SeqAt.shaped d = true) (se : SeqAt.shaped e = true) (h : PyData.eqv d e = b) (q : Q (.bl b) H) : rEqD K x y H Q := ⟨d, e, hd, he, sd, se, by rw [h]; exact q⟩
end LB

namespace LB
open PySem PySem.Spec PyProof.Rows L2
/-! ### the stepping word -/
local macro_rules | `(tactic| walk_at "hp") => `(tactic| first
  | assumption
  | with_reducible exact upd_same
  | (refine Eq.trans (upd_ne ?_) ?_; (· walk_at "ne"); (· walk_at "hp")))
local macro_rules | `(tactic| walk_at "ne") => `(tactic| first
  | assumption
  | (apply Ne.symm; assumption))
local macro_rules | `(tactic| walk_at "cond") => `(tactic| first
  | assumption
  | with_reducible rfl
  | omega
  | decide
  | (refine And.intro ?_ ?_ <;> first | assumption | omega | decide)
  | (refine Or.inl (Or.inl ⟨?_, ?_⟩) <;> omega)
  | (refine Or.inl (Or.inr ⟨?_, ?_⟩) <;> omega)
  | (refine ⟨?_, ?_, ?_⟩ <;> omega))
local macro_rules | `(tactic| walk_at "len") => `(tactic| (simp only [List.length_cons, List.length_nil, List.length_append]; decide))
local macro_rules | `(tactic| walk_at "st") => `(tactic| first
  | (with_reducible first
  | refine w_seqA ?_ | refine w_seqE ?_ | refine w_seqG ?_ | refine w_seqP ?_ | refine w_par ?_ | refine w_asg ?_ | refine w_ret ?_ | refine w_ifS ?_ | refine w_drop ?_ | refine w_next ?_ | refine w_nx ?_ | refine w_rt ?_ | refine w_bk ?_ | refine w_ct ?_ | refine w_brk ?_ | refine w_cont ?_
  | refine w_op ?_ | refine w_c ?_
  | refine w_v0 ?_ | refine w_v1 ?_ | refine w_v2 ?_ | refine w_v3 ?_ | refine w_v4 ?_ | refine w_v5 ?_ | refine w_v6 ?_ | refine w_v7 ?_ | refine w_v8 ?_ | refine w_v9 ?_ | refine w_v10 ?_ | refine w_v11 ?_ | refine w_v12 ?_
  | refine w_g0 ?_ | refine w_g1 ?_ | refine w_g2 ?_ | refine w_g3 ?_ | refine w_g4 ?_ | refine w_g5 ?_ | refine w_g6 ?_ | refine w_g7 ?_ | refine w_g8 ?_ | refine w_g9 ?_ | refine w_g10 ?_ | refine w_g11 ?_ | refine w_g12 ?_
  | refine w_I0 ?_
  | refine w_cb ?_ | refine w_cons ?_ | refine w_nil ?_
  | refine w_test ?_ | refine w_B ?_ | refine w_bl ?_
  | refine w_un ?_ | refine w_U ?_ | refine w_if ?_ | refine w_andV ?_ | refine w_orV ?_ | refine w_notV ?_
  | refine w_and ?_ | refine w_or ?_ | refine w_not ?_ | refine w_chain ?_
  | refine w_lst ?_ | refine w_tup ?_ | refine w_call ?_ | refine w_callN ?_ | refine w_sl ?_ | refine w_noPart ?_ | refine w_part ?_ | refine w_int ?_ | refine w_two ?_ | refine w_retN ?_
  | refine w_int1 ?_ | refine w_int1b ?_ | refine w_abs ?_ | refine w_isN ?_ | refine w_notN ?_ | refine w_isB ?_ | refine w_isNotB ?_ | refine w_in1 ?_ | refine w_notIn1 ?_ | refine w_gSub ?_ | refine w_iStr ?_ | refine w_str ?_ | refine w_iRng1 ?_ | refine w_iRng2 ?_ | refine w_iList ?_ | refine w_iTup ?_ | refine w_for ?_)
  | ((with_reducible refine' w_ixL ?h ?e ?q); (case h => walk_at "hp"); (case e => exact rfl))
  | ((with_reducible refine' w_ixT ?h ?e ?q); (case h => walk_at "hp"); (case e => exact rfl))
  | ((with_reducible refine' w_lenL ?h ?q); (case h => walk_at "hp"))
  | ((with_reducible refine' w_lenT ?h ?q); (case h => walk_at "hp"))
  | ((with_reducible refine' w_set31 ?h ?q); (case h => walk_at "hp"))
  | ((with_reducible refine' w_set32 ?h ?q); (case h => walk_at "hp"))
  | ((with_reducible refine' w_I ?h ?q); (case h => walk_at "cond"))
  | ((with_reducible refine' w_eq ?h ?q); (case h => exact rfl))
  | ((with_reducible refine' w_ne ?h ?q); (case h => exact rfl))
  | ((with_reducible refine' w_iteT ?h ?q); (case h => exact rfl))
  | ((with_reducible refine' w_iteF ?h ?q); (case h => exact rfl))
  | ((with_reducible refine' w_lstAt ?h ?q); (case h => walk_at "hp"))
  | ((with_reducible refine' w_tupAt ?h ?q); (case h => walk_at "hp"))
  | ((with_reducible refine' w_rng1 ?h ?q); (case h => (constructor <;> omega)))
  | ((with_reducible refine' w_slS ?h ?q); (case h => first | assumption | decide +kernel))
  | ((with_reducible refine' w_lenS ?h ?q); (case h => first | assumption | decide +kernel))
  | ((with_reducible refine' w_addS ?h ?q); (case h => exact addlen (by first | assumption | decide +kernel) (by first | assumption | decide +kernel)))
  | ((with_reducible refine' w_strI ?h ?q); (case h => first | assumption | decide +kernel))
  | ((with_reducible refine' w_mulS ?h ?q); (case h => decide +kernel)))
def top (i : Nat) : Stmt := PySem.Challenge.pw_learntbooks_k02_values_looked_at.main.body.getD i (.Pass ⟨0, 0, 0, 0⟩)
abbrev s_is_int : Stmt := top 9
abbrev s_is_between : Stmt := top 10
abbrev s_need_letters : Stmt := top 11
abbrev s_signs_of : Stmt := top 12
abbrev s_is_text : Stmt := top 13
abbrev s_number_of : Stmt := top 14
abbrev s_law_pen : Stmt := top 16
abbrev s_law_draw : Stmt := top 17
abbrev s_law_pick : Stmt := top 18
abbrev s_law_number : Stmt := top 19
abbrev s_law_numbers_right : Stmt := top 20
abbrev s_law_kinds_right : Stmt := top 21
abbrev s_law : Stmt := top 22
theorem sc_is_int : FnScope ["value"] ["value"] (defScope s_is_int) := ⟨rfl, rfl, rfl, by decide +kernel, rfl, by decide +kernel, by decide +kernel⟩
theorem sc_is_between : FnScope ["value", "least", "most"] ["value", "least", "most"] (defScope s_is_between) := ⟨rfl, rfl, rfl, by decide +kernel, rfl, by decide +kernel, by decide +kernel⟩
theorem sc_need_letters : FnScope ["value"] ["value"] (defScope s_need_letters) := ⟨rfl, rfl, rfl, by decide +kernel, rfl, by decide +kernel, by decide +kernel⟩
theorem sc_signs_of : FnScope ["letters"] ["letters"] (defScope s_signs_of) := ⟨rfl, rfl, rfl, by decide +kernel, rfl, by decide +kernel, by decide +kernel⟩
theorem sc_is_text : FnScope ["value", "letters", "sign"] ["value", "letters"] (defScope s_is_text) := ⟨rfl, rfl, rfl, by decide +kernel, rfl, by decide +kernel, by decide +kernel⟩
theorem sc_number_of : FnScope ["word", "least", "most", "digits", "number", "sign"] ["word", "least", "most"] (defScope s_number_of) := ⟨rfl, rfl, rfl, by decide +kernel, rfl, by decide +kernel, by decide +kernel⟩
theorem sc_law_pen : FnScope ["script"] ["script"] (defScope s_law_pen) := ⟨rfl, rfl, rfl, by decide +kernel, rfl, by decide +kernel, by decide +kernel⟩
theorem sc_law_draw : FnScope ["pen", "many", "digit", "begun", "lone", "great", "mixed"] ["pen", "many"] (defScope s_law_draw) := ⟨rfl, rfl, rfl, by decide +kernel, rfl, by decide +kernel, by decide +kernel⟩
theorem sc_law_pick : FnScope ["pen", "some"] ["pen", "some"] (defScope s_law_pick) := ⟨rfl, rfl, rfl, by decide +kernel, rfl, by decide +kernel, by decide +kernel⟩
theorem sc_law_number : FnScope ["word", "figures", "sign"] ["word"] (defScope s_law_number) := ⟨rfl, rfl, rfl, by decide +kernel, rfl, by decide +kernel, by decide +kernel⟩
theorem sc_law_numbers_right : FnScope ["pen", "held", "some", "word", "low", "high", "due"] ["pen"] (defScope s_law_numbers_right) := ⟨rfl, rfl, rfl, by decide +kernel, rfl, by decide +kernel, by decide +kernel⟩
theorem sc_law_kinds_right : FnScope ["pen", "odd", "held", "many", "signs_so", "wording", "bad", "lap"] ["pen"] (defScope s_law_kinds_right) := ⟨rfl, rfl, rfl, by decide +kernel, rfl, by decide +kernel, by decide +kernel⟩
theorem sc_law : FnScope ["script", "pen", "lap"] ["script"] (defScope s_law) := ⟨rfl, rfl, rfl, by decide +kernel, rfl, by decide +kernel, by decide +kernel⟩
theorem kw0 : KwOk s_number_of "number_of" ["word", "least", "most"] 0 ["most", "least", "word"] [2, 1, 0] := ⟨fun _ _ _ _ _ _ us ws h1 h2 => match us, ws, h1, h2 with | [], [_, _, _], _, _ => rfl⟩
theorem kw1 : KwOk s_is_between "is_between" ["value", "least", "most"] 0 ["value", "least", "most"] [0, 1, 2] := ⟨fun _ _ _ _ _ _ us ws h1 h2 => match us, ws, h1, h2 with | [], [_, _, _], _, _ => rfl⟩
theorem kw2 : KwOk s_is_int "is_int" ["value"] 0 ["value"] [0] := ⟨fun _ _ _ _ _ _ us ws h1 h2 => match us, ws, h1, h2 with | [], [_], _, _ => rfl⟩
theorem kw3 : KwOk s_signs_of "signs_of" ["letters"] 0 ["letters"] [0] := ⟨fun _ _ _ _ _ _ us ws h1 h2 => match us, ws, h1, h2 with | [], [_], _, _ => rfl⟩
theorem kw4 : KwOk s_is_text "is_text" ["value", "letters"] 0 ["letters", "value"] [1, 0] := ⟨fun _ _ _ _ _ _ us ws h1 h2 => match us, ws, h1, h2 with | [], [_, _], _, _ => rfl⟩
/-- what the walk asks of the module's names -/
structure Txt (K : PySem.W.Frag) (mg : Str → Option Value) : Prop where
  n_abs : mg "abs" = none
  n_all : mg "all" = none
  n_bool : mg "bool" = none
  n_int : mg "int" = none
  n_isinstance : mg "isinstance" = none
  n_len : mg "len" = none
  n_list : mg "list" = none
  n_range : mg "range" = none
  n_str : mg "str" = none
  g_LEAST_LETTERS : ∃ u, mg "LEAST_LETTERS" = some u ∧ RelV (.int (2)) u
  g_MOST_FIGURES : ∃ u, mg "MOST_FIGURES" = some u ∧ RelV (.int (60)) u
  g_MOST_LETTERS : ∃ u, mg "MOST_LETTERS" = some u ∧ RelV (.int (26)) u
  g_SIGNS : ∃ u, mg "SIGNS" = some u ∧ RelV (.str "abcdefghijklmnopqrstuvwxyz") u

/-! ### the pen: what draws -/
/-- a pen at p, its cells at c: at most n draws begun -/
def PenB (H : Hp) (p c : Addr) (n : Int) : Prop := ∃ (cells : List Int) (b r : Int), H p = some (.lst [.ref c, .int b, .int r]) ∧ H c = some (.lst (cells.map V.int)) ∧ 0 ≤ b ∧ b ≤ n ∧ 0 ≤ r
/-- all but p is kept -/
def Keep (p : Addr) (H H' : Hp) : Prop := ∀ q o, q ≠ p → H q = some o → H' q = some o
section
variable {H H' H'' H1 H2 : Hp} {p c q : Addr} {n n' : Int} {o : HO}
theorem Keep.refl (p : Addr) (H : Hp) : Keep p H H := fun _ _ _ h => h
theorem Keep.trans (a : Keep p H H1) (b : Keep p H1 H2) : Keep p H H2 := fun q o n h => b q o n (a q o n h)
theorem Keep.upd (a : Keep p H H1) : Keep p H (L2.upd H1 p o) := fun q u n h => by
  rw [upd_ne n]
  exact a q u n h
theorem Keep.new (a : Keep p H H1) (hq : H q = none) : Keep p H (L2.upd H1 q o) := fun b u n h => by
  rw [upd_ne (ne_of_none h hq)]
  exact a b u n h
theorem PenB.of {cells : List Int} {b r : Int} (hp : H p = some (.lst [.ref c, .int b, .int r])) (hc : H c = some (.lst (cells.map V.int))) (h0 : 0 ≤ b) (h1 : b ≤ n) (h2 : 0 ≤ r) : PenB H p c n := ⟨cells, b, r, hp, hc, h0, h1, h2⟩
theorem pen_ne {cells : List Int} {b r : Int} (hp : H p = some (.lst [.ref c, .int b, .int r])) (hc : H c = some (.lst (cells.map V.int))) : c ≠ p := ne_of hc hp (by
  intro e
  injection e with e
  cases cells with
  | nil => cases e
  | cons a r => simp at e)
theorem PenB.ne (h : PenB H p c n) : c ≠ p := by
  obtain ⟨cells, b, r, h1, h2, _⟩ := h
  exact pen_ne h1 h2
theorem PenB.mono (h : PenB H p c n) (hn : n ≤ n') : PenB H p c n' := by
  obtain ⟨cells, b, r, h1, h2, h3, h4, h5⟩ := h
  exact ⟨cells, b, r, h1, h2, h3, by omega, h5⟩
theorem PenB.upd' (h : PenB H p c n) (np : q ≠ p) (nc : q ≠ c) : PenB (L2.upd H q o) p c n := by
  obtain ⟨cells, b, r, h1, h2, h3, h4, h5⟩ := h
  exact ⟨cells, b, r, by rw [upd_ne np.symm]; exact h1, by rw [upd_ne nc.symm]; exact h2, h3, h4, h5⟩
theorem PenB.free (h : PenB H p c n) (hq : H q = none) : q ≠ p := by
  obtain ⟨cells, b, r, h1, _⟩ := h
  exact (ne_of_none h1 hq).symm
theorem PenB.freeC (h : PenB H p c n) (hq : H q = none) : q ≠ c := by
  obtain ⟨cells, b, r, _, h1, _⟩ := h
  exact (ne_of_none h1 hq).symm
theorem PenB.new (h : PenB H p c n) (hq : H q = none) : PenB (L2.upd H q o) p c n := h.upd' (h.free hq) (h.freeC hq)
theorem PenB.same (h : PenB H p c n) (s : Same H H') : PenB H' p c n := by
  obtain ⟨cells, b, r, h1, h2, h3, h4, h5⟩ := h
  exact ⟨cells, b, r, s _ _ h1, s _ _ h2, h3, h4, h5⟩
theorem Keep.free (e : Keep p H H') (n : q ≠ p) (h : H' q = none) : H q = none := by
  cases h1 : H q with
  | none => rfl
  | some o => rw [e q o n h1] at h; cases h
/-- a new object behind draws -/
theorem Keep.alloc (e : Keep p H H') (hp : PenB H' p c n) (hq : H' q = none) : Keep p H (L2.upd H' q o) := e.new (e.free (hp.free hq) hq)
theorem Keep.same (e : Keep p H H') (s : Same H' H'') : Keep p H H'' := fun q o n h => s _ _ (e q o n h)
end
theorem draw_cond {y b k1 k2 k3 : Int} (hy0 : 0 ≤ y) (hy : y < 2147483648) (hb : 0 ≤ b) (hb1 : b ≤ 100000) (h1 : 0 ≤ k1 ∧ k1 ≤ 1000000) (h2 : 0 ≤ k2 ∧ k2 ≤ 1000000) (h3 : 0 ≤ k3 ∧ k3 ≤ 1000000) : CPow (y * (2 * b + k1) + k2 * b * b + k3) 3 := by
  have e1 : y * (2 * b + k1) ≤ 2147483648 * 1200000 := Int.mul_le_mul (by omega) (by omega) (by omega) (by omega)
  have e0 : 0 ≤ y * (2 * b + k1) := Int.mul_nonneg hy0 (by omega)
  have e2 : k2 * b ≤ 1000000 * 100000 := Int.mul_le_mul (by omega) hb1 hb (by omega)
  have e3 : 0 ≤ k2 * b := Int.mul_nonneg h2.1 hb
  have e4 : k2 * b * b ≤ (1000000 * 100000) * 100000 := Int.mul_le_mul e2 hb1 hb (by omega)
  have e5 : 0 ≤ k2 * b * b := Int.mul_nonneg e3 hb
  exact ⟨by decide, by decide, by omega⟩
def spDraw : Sp := fun vs H Q _ => ∃ (p c : Addr) (m n : Int), vs = [.ref p, .int m] ∧ 0 < m ∧ m.natAbs.log2 < 9000 ∧ PenB H p c n ∧ n ≤ 100000 ∧
  ∀ (d : Int) (H' : Hp), 0 ≤ d → d < m → Keep p H H' → PenB H' p c (n + 1) → Q (.int d) H'
section
variable {P : Program} {w : World} {K : PySem.W.Frag} {mg : Str → Option Value} {base : Heap}
theorem d_law_draw (T : Txt K mg) (F : FD K mg "_law_draw" s_law_draw) : Dn P w K mg base 1 "_law_draw" s_law_draw ["pen", "many"] (spDraw) := by
  refine dn_of F (fun _ _ _ _ _ _ us hl => match us, hl with | [_, _], _ => rfl) sc_law_draw (fun vs H Q E h => ?_) (fun fa cdv A outer s H vs Q E hr h => ?_)
  · obtain ⟨p, c, m, n, rfl, _⟩ := h
    rfl
  · obtain ⟨p, c, m, n, rfl, hm, hm2, ⟨cells, b, r, hp, hc, hb, hbn, hr0⟩, hn, k⟩ := h
    have ncp : c ≠ p := pen_ne hp hc
    refine ⟨_, PSs.nox (pss_cons (ps_if (pt_cmpR op_gt (pe_ix ix_list (pv 0) pe_int (fun _ _ => rfl)) pe_int (nomark _))
 (pss_cons (ps_set (i := 2) sc_law_draw.nd rfl (Or.inl rfl) (pe_op op_mod (pe_callTy cl_int1 (by rfl) T.n_int (by decide +kernel) (pa_cons (pe_ix ix_list (pv 0) pe_int (fun _ _ => rfl)) pa_nil)) (pv 1)))
 (pss_cons (ps_asg (pe_op op_fdivW (pe_callTy cl_int1 (by rfl) T.n_int (by decide +kernel) (pa_cons (pe_ix ix_list (pv 0) pe_int (fun _ _ => rfl)) pa_nil)) (pv 1)) (pg_sub (pv 0) pe_int set_list))
 (pss_one (ps_ret (pv 2)))))
 pss_nil)
 (pss_cons (ps_set (i := 3) sc_law_draw.nd rfl (Or.inl rfl) (pe_ix ix_list (pv 0) pe_int (fun _ _ => rfl)))
 (pss_cons (ps_asg (pe_op op_add (pv 3) pe_int) (pg_sub (pv 0) pe_int set_list))
 (pss_cons (ps_set (i := 4) sc_law_draw.nd rfl (Or.inl rfl) (pe_op op_add (pe_op op_mulA pe_int (pv 3)) pe_int))
 (pss_cons (ps_if (pt_cmpR (op_neD hr.units) (pe_ix ix_list (pv 0) pe_int (fun _ _ => rfl)) (pe_lst pa_nil) (nomark _))
 (pss_one (ps_set (i := 4) sc_law_draw.nd rfl (Or.inl rfl) (pe_ix ix_list (pe_ix ix_list (pv 0) pe_int (fun _ _ => rfl)) (pe_op op_mod (pe_callTy cl_int1 (by rfl) T.n_int (by decide +kernel) (pa_cons (pv 3) pa_nil)) (pe_callB cl_lenQ (by rfl) T.n_len (by decide +kernel) (pa_cons (pe_ix ix_list (pv 0) pe_int (fun _ _ => rfl)) pa_nil))) (fun _ _ => rfl))))
 pss_nil)
 (pss_cons (ps_if (PW.pt (pw_and (pt_cmpR op_lt (pv 3) (pe_callB cl_lenQ (by rfl) T.n_len (by decide +kernel) (pa_cons (pe_ix ix_list (pv 0) pe_int (fun _ _ => rfl)) pa_nil)) (nomark _)) (pw_and1 (pt_cmpR op_ge (pe_callB cl_abs (by rfl) T.n_abs (by decide +kernel) (pa_cons (pv 4) pa_nil)) (pe_op op_pow pe_int pe_int) (nomark _)))))
 (pss_cons (ps_set (i := 5) sc_law_draw.nd rfl (Or.inl rfl) (pe_op op_add (pe_op op_mulA pe_int (pe_op op_sub (pe_callB cl_abs (by rfl) T.n_abs (by decide +kernel) (pa_cons (pv 4) pa_nil)) (pe_op op_pow pe_int pe_int))) (pe_callTy cl_int1 (by rfl) T.n_int (by decide +kernel) (pa_cons (pe_cmpR op_lt (pv 4) pe_int (nomark _)) pa_nil))))
 (pss_cons (ps_asg (pe_op op_fdivW (pe_callTy cl_int1 (by rfl) T.n_int (by decide +kernel) (pa_cons (pv 5) pa_nil)) (pv 1)) (pg_sub (pv 0) pe_int set_list))
 (pss_one (ps_ret (pe_op op_mod (pe_callTy cl_int1 (by rfl) T.n_int (by decide +kernel) (pa_cons (pv 5) pa_nil)) (pv 1))))))
 pss_nil)
 (pss_cons (ps_set (i := 6) sc_law_draw.nd rfl (Or.inl rfl) (pe_op op_mod (pe_callTy cl_int1 (by rfl) T.n_int (by decide +kernel) (pa_cons (pe_op op_pow (pe_op op_add (pe_op op_add (pe_op op_mod (pe_callTy cl_int1 (by rfl) T.n_int (by decide +kernel) (pa_cons (pv 4) pa_nil)) pe_int) (pe_op op_mulA pe_int (pv 3))) pe_int) pe_int) pa_nil)) pe_int))
 (pss_cons (ps_set (i := 6) sc_law_draw.nd rfl (Or.inl rfl) (pe_op op_mod (pe_callTy cl_int1 (by rfl) T.n_int (by decide +kernel) (pa_cons (pe_op op_pow (pe_op op_add (pe_op op_add (pe_op op_mulA (pv 6) (pe_op op_add (pe_op op_mulA pe_int (pv 3)) pe_int)) (pe_op op_mulA (pe_op op_mulA pe_int (pv 3)) (pv 3))) pe_int) pe_int) pa_nil)) pe_int))
 (pss_one (ps_ret (pe_op op_mod (pe_callTy cl_int1 (by rfl) T.n_int (by decide +kernel) (pa_cons (pe_op op_fdivW (pv 6) pe_int) pa_nil)) (pv 1)))))))))))), ?_⟩
    refine w_start (σ := [some (.ref p), some (.int m), none, none, none, none, none]) rfl ?_
    with_reducible refine w_seq ?_
    repeat walk_at "st"
    refine w_ite (fun h0 => ?_) (fun h0 => ?_)
    · repeat walk_at "st"
      refine k _ _ (Int.emod_nonneg _ (by omega)) (Int.emod_lt_of_pos _ hm) (Keep.refl p H).upd ?_
      exact PenB.of upd_same (by walk_at "hp") hb (by omega) (Int.ediv_nonneg hr0 (by omega))
    repeat walk_at "st"
    with_reducible refine w_join (fun σ' H' => ∃ x : Int, σ' = [some (.ref p), some (.int m), none, some (.int b), some (.int x), none, none] ∧ H' p = some (.lst [.ref c, .int (b + 1), .int r]) ∧ H' c = some (.lst (cells.map V.int)) ∧ Keep p H H') (fun X hX => ?_) ?_
    · repeat walk_at "st"
      refine ⟨Nat.zero_le _, fun q hq => ?_⟩
      have nqp : p ≠ q := ne_of_none upd_same hq
      have nqc : c ≠ q := ne_of_none (show upd H p (.lst [V.ref c, V.int (b + 1), V.int r]) c = some (.lst (cells.map V.int)) by walk_at "hp") hq
      have hq0 : H q = none := by
        rw [upd_ne nqp.symm] at hq
        exact hq
      refine w_neNil (ns := cells) (by walk_at "hp") (by walk_at "hp") ?_
      repeat walk_at "st"
      refine w_itN (fun h1 => ?_) (fun h1 => ?_)
      · have hl : 0 < cells.length := List.length_pos_iff.mpr h1
        repeat walk_at "st"
        refine w_I (by rw [List.length_map]; omega) ?_
        refine w_ixL (xs := cells.map V.int) (by walk_at "hp") (atI_map (Int.emod_nonneg _ (by rw [List.length_map]; omega)) (by rw [List.length_map]; exact Int.emod_lt_of_pos _ (by omega))) ?_
        repeat walk_at "st"
        exact hX _ _ ⟨_, rfl, by walk_at "hp", by walk_at "hp", ((Keep.refl p H).upd).new hq0⟩
      · repeat walk_at "st"
        exact hX _ _ ⟨_, rfl, by walk_at "hp", by walk_at "hp", ((Keep.refl p H).upd).new hq0⟩
    · rintro σ' H' ⟨x, rfl, hp', hc', kp⟩
      with_reducible refine w_join (fun σ1 H1 => σ1 = [some (.ref p), some (.int m), none, some (.int b), some (.int x), none, none] ∧ H1 = H') (fun X hX => ?_) ?_
      · repeat walk_at "st"
        refine w_ite (fun h1 => ?_) (fun h1 => ?_)
        · repeat walk_at "st"
          refine w_ite (fun h2 => ?_) (fun h2 => ?_)
          · repeat walk_at "st"
            refine k _ _ (Int.emod_nonneg _ (by omega)) (Int.emod_lt_of_pos _ hm) kp.upd ?_
            refine PenB.of upd_same (by walk_at "hp") (by omega) (by omega) (Int.ediv_nonneg ?_ (by omega))
            have h3 : (10 : Int) ^ (18 : Int).toNat ≤ (if x < 0 then -x else x) := h2
            split <;> split <;> omega
          · repeat walk_at "st"
            exact hX _ _ ⟨rfl, rfl⟩
        · repeat walk_at "st"
          exact hX _ _ ⟨rfl, rfl⟩
      · rintro σ1 H1 ⟨rfl, rfl⟩
        repeat walk_at "st"
        refine w_I (draw_cond (Int.emod_nonneg _ (by decide)) (Int.lt_trans (Int.emod_lt_of_pos _ (by decide)) (by decide)) hb (by omega) (by decide) (by decide) (by decide)) ?_
        repeat walk_at "st"
        exact k _ _ (Int.emod_nonneg _ (by omega)) (Int.emod_lt_of_pos _ hm) kp (PenB.of hp' hc' (by omega) (by omega) (by omega))
def spPick (K : PySem.W.Frag) : Sp := fun vs H Q _ => ∃ (p c : Addr) (x : V) (xs : List V) (n : Int), vs = [.ref p, x] ∧ Row K H x xs ∧ x ≠ .ref p ∧ 0 < xs.length ∧ xs.length ≤ 1000000 ∧ PenB H p c n ∧ n ≤ 100000 ∧
  ∀ (v : V) (H' : Hp), v ∈ xs → Keep p H H' → PenB H' p c (n + 1) → Q v H'
theorem Row.keep {H H' : Hp} {p : Addr} {x : V} {xs : List V} (e : Keep p H H') (h : Row K H x xs) (n : x ≠ .ref p) : Row K H' x xs := by
  cases h with
  | lst h =>
    rename_i a
    have na : a ≠ p := fun z => n (by rw [z])
    refine .lst ?_
    rcases h with (h | ⟨o, h⟩) | h
    · exact .inl (.inl (e _ _ na h))
    · exact .inl (.inr ⟨o, e _ _ na h⟩)
    · exact .inr h
  | tup h =>
    rename_i a
    have na : a ≠ p := fun z => n (by rw [z])
    refine .tup ?_
    rcases h with (h | ⟨o, h⟩) | h
    · exact .inl (.inl (e _ _ na h))
    · exact .inl (.inr ⟨o, e _ _ na h⟩)
    · exact .inr h
  | str h => exact .str h
theorem log2_small {n : Nat} (h : n ≤ 1000000) : ((n : Nat) : Int).natAbs.log2 < 9000 := by
  rw [Int.natAbs_natCast]
  exact PySem.Flt.log2_lt_of (by decide) (Nat.lt_of_le_of_lt h (by decide +kernel))
theorem d_law_pick (T : Txt K mg) (F : FD K mg "_law_pick" s_law_pick) (c_law_draw : Dn P w K mg base 1 "_law_draw" s_law_draw ["pen", "many"] (spDraw)) : Dn P w K mg base 2 "_law_pick" s_law_pick ["pen", "some"] (spPick K) := by
  refine dn_of F (fun _ _ _ _ _ _ us hl => match us, hl with | [_, _], _ => rfl) sc_law_pick (fun vs H Q E h => ?_) (fun fa cdv A outer s H vs Q E hr h => ?_)
  · obtain ⟨p, c, x, xs, n, rfl, _⟩ := h
    rfl
  · obtain ⟨p, c, x, xs, n, rfl, rw_, nx, l0, l1, hp, hn, k⟩ := h
    refine ⟨_, PSs.nox (pss_one (ps_ret (pe_ix ix_seq (pv 1) (pe_d c_law_draw hr (by decide) rfl (pa_cons (pv 0) (pa_cons (pe_callB cl_lenA (by rfl) T.n_len (by decide +kernel) (pa_cons (pv 1) pa_nil)) pa_nil))) (fun _ _ => rfl)))), ?_⟩
    refine w_start (σ := [some (.ref p), some x]) rfl ?_
    repeat walk_at "st"
    refine w_lenA rw_ ?_
    repeat walk_at "st"
    refine ⟨p, c, (xs.length : Int), n, rfl, by omega, log2_small l1, hp, hn, fun d H' d0 d1 e hp' => ?_⟩
    exact w_ixA (Row.keep e rw_ nx) d0 d1 fun v hv _ => k v H' hv e hp'
/-- .. of a list that was just made -/
theorem pick_new {K : PySem.W.Frag} {H : Hp} {p c q : Addr} {n : Int} {xs : List V} {Q : VK} (hq : H q = none) (hp : PenB H p c n) (hn : n ≤ 100000) (l0 : 0 < xs.length) (l1 : xs.length ≤ 1000000)
    (cn : ∀ (v : V) (H' : Hp), v ∈ xs → Keep p H H' → PenB H' p c (n + 1) → Q v H') : spPick K ([.ref p, .ref q] ++ []) (L2.upd H q (.lst xs)) Q E0 :=
  ⟨p, c, .ref q, xs, n, rfl, .lst (SqL.of upd_same), fun e => hp.free hq (by injection e), l0, l1, hp.new hq, hn, fun v H' hv e h => cn v H' hv (((Keep.refl p H).alloc hp hq).trans e) h⟩
def spPen (K : PySem.W.Frag) : Sp := fun vs H Q _ => ∃ (a : Addr) (ns : List Int), vs = [.ref a] ∧ SqL K H a (ns.map V.int) ∧
  ∀ (p c : Addr) (H' : Hp), H p = none → Same H H' → PenB H' p c 0 → Q (.ref p) H'
theorem cutV_ints (ns : List Int) (lo hi : Option Int) : ∃ ms : List Int, cutV (ns.map V.int) lo hi = ms.map V.int := by
  unfold cutV
  rw [← List.map_drop, ← List.map_take]
  exact ⟨_, rfl⟩
theorem d_law_pen (T : Txt K mg) (F : FD K mg "_law_pen" s_law_pen) : Dn P w K mg base 1 "_law_pen" s_law_pen ["script"] (spPen K) := by
  refine dn_of F (fun _ _ _ _ _ _ us hl => match us, hl with | [_], _ => rfl) sc_law_pen (fun vs H Q E h => ?_) (fun fa cdv A outer s H vs Q E hr h => ?_)
  · obtain ⟨a, ns, rfl, _⟩ := h
    rfl
  · obtain ⟨a, ns, rfl, hS, k⟩ := h
    refine ⟨_, PSs.nox (pss_one (ps_ret (pe_lst (pa_cons (pe_callTy cl_listOf (by rfl) T.n_list (by decide +kernel) (pa_cons (pe_slice sl_list (pv 0) po_none (po_some pe_int)) pa_nil)) (pa_cons pe_int (pa_cons pe_int pa_nil)))))), ?_⟩
    refine w_start (σ := [some (.ref a)]) rfl ?_
    repeat walk_at "st"
    refine w_slL hS fun q hq => ?_
    obtain ⟨ms, e⟩ := cutV_ints ns none (some 63)
    rw [e]
    repeat walk_at "st"
    refine w_listOfK (SqL.of upd_same) fun r hr' => ?_
    repeat walk_at "st"
    refine ⟨by walk_at "len", fun p hp => ?_⟩
    have nrp : r ≠ p := ne_of_none upd_same hp
    have nqr : q ≠ r := ne_of_none upd_same hr'
    have r0 : H r = none := by
      rw [upd_ne nqr.symm] at hr'
      exact hr'
    have nqp : q ≠ p := ne_of_none (show upd (upd H q (.lst (ms.map V.int))) r (.lst (ms.map V.int)) q = some (.lst (ms.map V.int)) by walk_at "hp") hp
    have p0 : H p = none := by
      rw [upd_ne nrp.symm, upd_ne nqp.symm] at hp
      exact hp
    refine k p r _ p0 (fun b o hb => ?_) (PenB.of upd_same (by walk_at "hp") (by decide) (by decide) (by decide))
    rw [upd_ne (ne_of_none hb p0), upd_ne (ne_of_none hb r0), upd_ne (ne_of_none hb hq)]
    exact hb
end

/-! ### numbers and their texts -/
/-- the codes of str(n) -/
def intL : Int → List Nat
  | .ofNat n => TL.numL n
  | .negSucc n => 45 :: TL.numL (n + 1)
theorem toString_S (n : Int) : (Str.ofString (toString n)) = SX.S (intL n) := by
  cases n with
  | ofNat n =>
    rw [← SX.S_tl (Str.ofString (toString (Int.ofNat n)))]
    exact congrArg SX.S (TL.tl_num n)
  | negSucc n =>
    rw [← SX.S_tl (Str.ofString (toString (Int.negSucc n)))]
    refine congrArg SX.S ?_
    have e : toString (Int.negSucc n) = "-" ++ Nat.repr (n + 1) := rfl
    rw [e, PyProof.Rows.signs_ofString, String.toList_append, List.map_append, Nat.toList_repr]
    rfl
theorem intL_nat (n : Nat) : intL (n : Int) = TL.numL n := rfl
theorem numL_45 (n : Nat) : 45 ∉ TL.numL n := TL.numL_free (.inl (by decide))
theorem intL_inj {m n : Int} (h : intL m = intL n) : m = n := by
  cases m with
  | ofNat m => cases n with
    | ofNat n => exact congrArg Int.ofNat (TL.numL_inj h)
    | negSucc n => exact absurd (show 45 ∈ TL.numL m by rw [show TL.numL m = 45 :: TL.numL (n + 1) from h]; exact List.mem_cons_self) (numL_45 m)
  | negSucc m => cases n with
    | ofNat n => exact absurd (show 45 ∈ TL.numL n by rw [← show 45 :: TL.numL (m + 1) = TL.numL n from h]; exact List.mem_cons_self) (numL_45 n)
    | negSucc n =>
      injection (show 45 :: TL.numL (m + 1) = 45 :: TL.numL (n + 1) from h) with _ h2
      have := TL.numL_inj h2
      congr 1
      omega
theorem intL_len {n : Int} {k : Nat} (hk : 0 < k) (h : n.natAbs < 10 ^ k) : (intL n).length ≤ k + 1 := by
  cases n with
  | ofNat n => exact Nat.le_trans (TL.numL_len hk h) (Nat.le_succ _)
  | negSucc n => exact Nat.succ_le_succ (TL.numL_len hk h)
theorem intL_codes (n : Int) : ∀ c ∈ intL n, c = 45 ∨ (48 ≤ c ∧ c ≤ 57) := by
  intro c hc
  cases n with
  | ofNat n => exact .inr (TL.numL_digits n c hc)
  | negSucc n =>
    rcases List.mem_cons.mp (show c ∈ 45 :: TL.numL (n + 1) from hc) with rfl | h
    · exact .inl rfl
    · exact .inr (TL.numL_digits _ c h)
theorem log_lt {n : Int} (h : n.natAbs < 10 ^ 100) : n.natAbs.log2 < 1920 := PySem.Flt.log2_lt_of (by decide) (Nat.lt_of_lt_of_le h (by decide +kernel))
/-- the figures of a text: without a sign ahead -/
def figL : List Nat → List Nat
  | 45 :: r => r
  | l => l
def digL : List Nat := (List.range 10).map (48 + ·)
theorem dig_S : ("0123456789" : Str) = SX.S digL := by decide +kernel
theorem dig_iff {c : Nat} : c ∈ digL ↔ 48 ≤ c ∧ c ≤ 57 := by
  unfold digL
  rw [List.mem_map]
  constructor
  · rintro ⟨a, ha, rfl⟩
    have := List.mem_range.mp ha
    omega
  · rintro ⟨h1, h2⟩
    exact ⟨c - 48, List.mem_range.mpr (by omega), by omega⟩
def okL (l : List Nat) : Bool := !decide (figL l = []) && (decide ((figL l).length ≤ 60) && (figL l).all fun c => decide (c ∈ digL))
def valL : List Nat → Int
  | 45 :: r => -((NumText.digitsVal r : Nat) : Int)
  | l => ((NumText.digitsVal l : Nat) : Int)
/-- the integer that a text tells just as str writes it, of at most 60 figures -/
def numO (l : List Nat) : Option Int := if okL l = true ∧ intL (valL l) = l then some (valL l) else none
theorem okL_parts {l : List Nat} (h : okL l = true) : figL l ≠ [] ∧ (figL l).length ≤ 60 ∧ NumText.AllDigits (figL l) := by
  unfold okL at h
  rw [Bool.and_eq_true, Bool.and_eq_true, Bool.not_eq_true', decide_eq_false_iff_not, decide_eq_true_iff, List.all_eq_true] at h
  exact ⟨h.1, h.2.1, fun c hc => dig_iff.mp (of_decide_eq_true (h.2.2 c hc))⟩
theorem fig_split (l : List Nat) : (∃ r, l = 45 :: r ∧ figL l = r ∧ valL l = -((NumText.digitsVal r : Nat) : Int)) ∨ (l.take 1 ≠ [45] ∧ figL l = l ∧ valL l = ((NumText.digitsVal l : Nat) : Int)) := by
  cases l with
  | nil => exact .inr ⟨by decide, rfl, rfl⟩
  | cons c r =>
    by_cases h : c = 45
    · subst h
      exact .inl ⟨r, rfl, rfl, rfl⟩
    · refine .inr ⟨fun e => h (by injection e), ?_, ?_⟩
      · unfold figL
        split
        · rename_i r' e
          injection e with e1 _
          exact absurd e1 h
        · rfl
      · unfold valL
        split
        · rename_i r' e
          injection e with e1 _
          exact absurd e1 h
        · rfl
theorem digitsVal_lt : ∀ (l : List Nat) (acc : Nat), NumText.AllDigits l → l.foldl (fun acc c => acc * 10 + (c - 48)) acc < (acc + 1) * 10 ^ l.length
  | [], acc, _ => by simp
  | c :: l, acc, h => by
    have hc := h c List.mem_cons_self
    have ih := digitsVal_lt l (acc * 10 + (c - 48)) fun d hd => h d (List.mem_cons_of_mem _ hd)
    rw [List.foldl_cons, List.length_cons, Nat.pow_succ]
    refine Nat.lt_of_lt_of_le ih ?_
    have h1 : acc * 10 + (c - 48) + 1 ≤ (acc + 1) * 10 := by omega
    have h2 := Nat.mul_le_mul_right (10 ^ l.length) h1
    rw [Nat.mul_assoc] at h2
    rw [Nat.mul_comm (10 ^ l.length) 10]
    exact h2
theorem digits_lt {l : List Nat} (h : NumText.AllDigits l) (hl : l.length ≤ 60) : NumText.digitsVal l < 10 ^ 60 := by
  have h1 := digitsVal_lt l 0 h
  refine Nat.lt_of_lt_of_le h1 ?_
  rw [Nat.zero_add, Nat.one_mul]
  exact Nat.pow_le_pow_right (by decide) hl
theorem valL_lt {l : List Nat} (h : okL l = true) : (valL l).natAbs < 10 ^ 60 := by
  obtain ⟨_, h2, h3⟩ := okL_parts h
  rcases fig_split l with ⟨r, rfl, e1, e2⟩ | ⟨_, e1, e2⟩
  · rw [e2, Int.natAbs_neg, Int.natAbs_natCast]
    rw [e1] at h2 h3
    exact digits_lt h3 h2
  · rw [e2, Int.natAbs_natCast]
    rw [e1] at h2 h3
    exact digits_lt h3 h2
theorem int_ok {l : List Nat} (h : okL l = true) : PySem.intText? (SX.S l) = some (valL l) ∧ (SX.S l).length ≤ 640 := by
  obtain ⟨h1, h2, h3⟩ := okL_parts h
  rcases fig_split l with ⟨r, rfl, e1, e2⟩ | ⟨_, e1, e2⟩
  · rw [e1] at h1 h2 h3
    rw [e2, sx_len, List.length_cons]
    exact ⟨PySem.intText_neg (x := SX.S (45 :: r)) (cs := r) rfl h3 h1 (by rw [sx_len, List.length_cons]; omega), by omega⟩
  · rw [e1] at h1 h2 h3
    rw [e2, sx_len]
    exact ⟨PySem.intText_digits (x := SX.S l) h3 h1 (by rw [sx_len]; omega), by omega⟩
theorem numO_intL {n m : Int} (h : numO (intL n) = some m) : m = n := by
  unfold numO at h
  split at h
  · rename_i c
    cases h
    exact intL_inj c.2
  · cases h
/-- what number_of tells -/
def numV (l : List Nat) (lo hi : Int) : V := match numO l with
  | some n => if lo ≤ n ∧ n ≤ hi then .int n else .non
  | none => .non

/-! ### number_of -/
theorem dash_S : ("-" : Str) = SX.S [45] := rfl
theorem empty_S : ("" : Str) = SX.S [] := rfl
def spNumOf : Sp := fun vs H Q _ => ∃ (l : List Nat) (lo hi : Int), vs = [.str (SX.S l), .int lo, .int hi] ∧ l.length ≤ 1000000 ∧ ∀ H', Same H H' → Q (numV l lo hi) H'
theorem numV_none {l : List Nat} {lo hi : Int} (h : numO l = none) : numV l lo hi = .non := by
  unfold numV
  rw [h]
theorem numV_out {l : List Nat} {lo hi n : Int} (h : numO l = some n) (h2 : ¬ (lo ≤ n ∧ n ≤ hi)) : numV l lo hi = .non := by
  unfold numV
  rw [h]
  exact if_neg h2
theorem numV_in {l : List Nat} {lo hi n : Int} (h : numO l = some n) (h2 : lo ≤ n ∧ n ≤ hi) : numV l lo hi = .int n := by
  unfold numV
  rw [h]
  exact if_pos h2
theorem numO_bad {l : List Nat} (h : ¬ okL l = true) : numO l = none := if_neg fun z => h z.1
theorem all_dig (l : List Nat) : (l.map fun c => decide (c ∈ digL)).all id = l.all fun c => decide (c ∈ digL) := by
  rw [List.all_map]
  rfl
section
variable {P : Program} {w : World} {K : PySem.W.Frag} {mg : Str → Option Value} {base : Heap}
theorem d_number_of (T : Txt K mg) (F : FD K mg "number_of" s_number_of) : Dn P w K mg base 1 "number_of" s_number_of ["word", "least", "most"] (spNumOf) := by
  refine dn_of F (fun _ _ _ _ _ _ us hl => match us, hl with | [_, _, _], _ => rfl) sc_number_of (fun vs H Q E h => ?_) (fun fa cdv A outer s H vs Q E hr h => ?_)
  · obtain ⟨l, lo, hi, rfl, _⟩ := h
    rfl
  · obtain ⟨l, lo, hi, rfl, hl, k⟩ := h
    have hz : (SX.S l).length ≤ sizeLine := by
      rw [sx_len]
      exact Nat.le_trans hl (by decide)
    refine ⟨_, PSs.nox (pss_cons (ps_set (i := 3) sc_number_of.nd rfl (Or.inl rfl) (pe_ifExp (pt_cmpR op_eq (pe_slice sl_str (pv 0) po_none (po_some pe_int)) pe_str (nomark _)) (pe_slice sl_str (pv 0) (po_some pe_int) po_none) (pv 0)))
 (pss_cons (ps_if (PW.pt (pw_or (pt_cmpR op_eq (pv 3) pe_str (nomark _)) (pw_or (pt_cmpR op_gt (pe_callB cl_lenS (by rfl) T.n_len (by decide +kernel) (pa_cons (pv 3) pa_nil)) (pe_gv rfl T.g_MOST_FIGURES) (nomark _)) (pw_or1 (pt_not (pt_val (pe_callB (cr_all rfl) (by rfl) T.n_all (by decide +kernel) (pa_cons (pe_lc (own := [("sign", 5)]) (tt := tYes) (g := gName 5) rfl sc_number_of.nd (pi_str (pv 3)) (blkOk_by (N := ["word", "least", "most", "digits", "number", "sign"]) (sc := defScope s_number_of) (by decide +kernel)) (fun _ _ _ _ _ => (pg_name (i := 5) sc_number_of.nd rfl (Or.inl rfl))) (fun _ _ _ _ _ => pts_nil) (fun _ _ _ _ _ => (pe_cmpR op_in1 (pv 5) pe_str (by rfl)))) pa_nil)) (by intro _; rfl)))))))
 (pss_one (ps_ret pe_non))
 pss_nil)
 (pss_cons (ps_set (i := 4) sc_number_of.nd rfl (Or.inl rfl) (pe_callTy cl_intS (by rfl) T.n_int (by decide +kernel) (pa_cons (pv 0) pa_nil)))
 (pss_one (ps_ret (pe_ifExp (PW.pt (pw_and (pt_cmpR op_eq (pe_callTy cl_strI (by rfl) T.n_str (by decide +kernel) (pa_cons (pv 4) pa_nil)) (pv 0) (nomark _)) (pw_and1 (pt_chain op_le op_le (pv 1) (pv 4) (pv 2))))) (pv 4) pe_non)))))), ?_⟩
    refine w_start (σ := [some (.str (SX.S l)), some (.int lo), some (.int hi), none, none, none]) rfl ?_
    with_reducible refine w_join (fun σ' H' => σ' = [some (.str (SX.S l)), some (.int lo), some (.int hi), some (.str (SX.S (figL l))), none, none] ∧ H' = H) (fun X hX => ?_) ?_
    · repeat walk_at "st"
      rw [cutS_to (by decide), dash_S, eqS]
      rcases fig_split l with ⟨r, rfl, e1, _⟩ | ⟨h1, e1, _⟩
      · refine w_iteT (by rfl) ?_
        repeat walk_at "st"
        rw [cutS_from (by decide)]
        exact hX _ _ ⟨by rw [e1]; rfl, rfl⟩
      · refine w_iteF (decide_eq_false h1) ?_
        repeat walk_at "st"
        exact hX _ _ ⟨by rw [e1], rfl⟩
    · rintro σ' H' ⟨rfl, rfl⟩
      have hf : (SX.S (figL l)).length ≤ sizeLine := by
        rw [sx_len]
        refine Nat.le_trans ?_ hz
        rw [sx_len]
        rcases fig_split l with ⟨r, rfl, e1, _⟩ | ⟨_, e1, _⟩
        · rw [e1, List.length_cons]
          omega
        · rw [e1]
          exact Nat.le_refl _
      with_reducible refine w_join (fun σ' H'' => okL l = true ∧ σ' = [some (.str (SX.S l)), some (.int lo), some (.int hi), some (.str (SX.S (figL l))), none, none] ∧ Same H' H'') (fun X hX => ?_) ?_
      · repeat walk_at "st"
        rw [empty_S, eqS]
        refine w_ite (fun h1 => ?_) (fun h1 => ?_)
        · repeat walk_at "st"
          rw [numV_none (numO_bad fun z => (okL_parts z).1 h1)] at k
          exact k _ (Same.refl _)
        · repeat walk_at "st"
          rw [sx_len]
          refine w_ite (fun h2 => ?_) (fun h2 => ?_)
          · repeat walk_at "st"
            rw [numV_none (numO_bad fun z => by have := (okL_parts z).2.1; omega)] at k
            exact k _ (Same.refl _)
          · repeat walk_at "st"
            refine lc_str H' (SX.S (figL l)) (fun c => .bl (decide (c ∈ digL))) (fun R hR => ?_) hf (fun c hc H1 e R hR => ?_) fun D H1 h3 h4 h5 => ?_
            · repeat walk_at "st"
              exact hR
            · simp only [wipe, List.map, List.set]
              repeat walk_at "st"
              rw [dig_S]
              exact hR _ (Same.refl _)
            · repeat walk_at "st"
              refine w_all (bs := (figL l).map fun c => decide (c ∈ digL)) (by rw [h5, List.map_map]; rfl) ?_
              rw [all_dig]
              repeat walk_at "st"
              cases h6 : (figL l).all fun c => decide (c ∈ digL) with
              | false =>
                refine w_iteT rfl ?_
                repeat walk_at "st"
                have h7 : ¬ okL l = true := by
                  unfold okL
                  rw [h6]
                  simp
                rw [numV_none (numO_bad h7)] at k
                exact k _ h4
              | true =>
                refine w_iteF rfl ?_
                repeat walk_at "st"
                refine hX _ _ ⟨?_, rfl, h4⟩
                unfold okL
                rw [h6, decide_eq_false h1, decide_eq_true (show (figL l).length ≤ 60 by omega)]
                rfl
      · rintro σ' H1 ⟨ok, rfl, e⟩
        obtain ⟨hi1, hi2⟩ := int_ok ok
        repeat walk_at "st"
        refine w_intS hi1 hi2 ?_
        repeat walk_at "st"
        refine w_strI (log_lt (Nat.lt_of_lt_of_le (valL_lt ok) (by decide +kernel))) ?_
        repeat walk_at "st"
        rw [toString_S, eqS]
        refine w_ite (fun h1 => ?_) (fun h1 => ?_)
        · have hn : numO l = some (valL l) := if_pos ⟨ok, h1⟩
          repeat walk_at "st"
          refine w_ite (fun h2 => ?_) (fun h2 => ?_)
          · repeat walk_at "st"
            refine w_ite (fun h3 => ?_) (fun h3 => ?_)
            · repeat walk_at "st"
              rw [numV_in hn ⟨h2, h3⟩] at k
              exact k _ e
            · repeat walk_at "st"
              rw [numV_out hn fun z => h3 z.2] at k
              exact k _ e
          · repeat walk_at "st"
            rw [numV_out hn fun z => h2 z.1] at k
            exact k _ e
        · repeat walk_at "st"
          rw [numV_none (if_neg fun z => h1 z.2)] at k
          exact k _ e
end

/-! ### checks.py -/
def spIsInt : Sp := fun vs H Q _ => ∃ x n, vs = [x] ∧ BV H x n ∧ Q (.bl (isIntV x)) H
def spBetween : Sp := fun vs H Q _ => ∃ x n lo hi, vs = [x, .int lo, .int hi] ∧ BV H x n ∧ Q (.bl (betV lo hi x)) H
def spNeedL : Sp := fun vs H Q _ => ∃ q : Int, vs = [.int q] ∧ 2 ≤ q ∧ q ≤ 26 ∧ Q .non H
section
variable {P : Program} {w : World} {K : PySem.W.Frag} {mg : Str → Option Value} {base : Heap}
theorem d_is_int (T : Txt K mg) (F : FD K mg "is_int" s_is_int) : Dn P w K mg base 1 "is_int" s_is_int ["value"] (spIsInt) := by
  refine dn_of F (fun _ _ _ _ _ _ us hl => match us, hl with | [_], _ => rfl) sc_is_int (fun vs H Q E h => ?_) (fun fa cdv A outer s H vs Q E hr h => ?_)
  · obtain ⟨x, n, rfl, _⟩ := h
    rfl
  · obtain ⟨x, n, rfl, b, k⟩ := h
    refine ⟨_, PSs.nox (pss_one (ps_ret (pe_and (pe_callB call_isi (by rfl) T.n_isinstance (by decide +kernel) (pa_cons (pv 0) (pa_cons (pe_bltn (v := .ty "int") (by rfl) T.n_int (by decide +kernel) rfl) pa_nil))) (pe_one (pe_not (pe_callB call_isi (by rfl) T.n_isinstance (by decide +kernel) (pa_cons (pv 0) (pa_cons (pe_bltn (v := .ty "bool") (by rfl) T.n_bool (by decide +kernel) rfl) pa_nil)))))))), ?_⟩
    refine w_start (σ := [some x]) rfl ?_
    repeat walk_at "st"
    refine w_isiInt b ?_
    cases b <;> (repeat walk_at "st")
    all_goals (first | exact k | (refine w_isiBool (by first | exact .int _ | exact .bl _) ?_; repeat walk_at "st"; exact k))
theorem d_is_between (T : Txt K mg) (F : FD K mg "is_between" s_is_between) (c_is_int : Dn P w K mg base 1 "is_int" s_is_int ["value"] (spIsInt)) : Dn P w K mg base 2 "is_between" s_is_between ["value", "least", "most"] (spBetween) := by
  refine dn_of F (fun _ _ _ _ _ _ us hl => match us, hl with | [_, _, _], _ => rfl) sc_is_between (fun vs H Q E h => ?_) (fun fa cdv A outer s H vs Q E hr h => ?_)
  · obtain ⟨x, n, lo, hi, rfl, _⟩ := h
    rfl
  · obtain ⟨x, n, lo, hi, rfl, b, k⟩ := h
    refine ⟨_, PSs.nox (pss_one (ps_ret (pe_and (pe_d c_is_int hr (by decide) rfl (pa_cons (pv 0) pa_nil)) (pe_one (pe_chain op_le op_le (pv 1) (pv 0) (pv 2)))))), ?_⟩
    refine w_start (σ := [some x, some (.int lo), some (.int hi)]) rfl ?_
    repeat walk_at "st"
    refine ⟨x, n, rfl, b, ?_⟩
    cases b <;> (repeat walk_at "st")
    all_goals try exact k
    rename_i i
    refine w_ite (fun h1 => ?_) (fun h1 => ?_)
    · repeat walk_at "st"
      rw [show betV lo hi (.int i) = decide (i ≤ hi) by show (decide (lo ≤ i) && decide (i ≤ hi)) = _; rw [decide_eq_true h1, Bool.true_and]] at k
      exact k
    · repeat walk_at "st"
      rw [show betV lo hi (.int i) = false by show (decide (lo ≤ i) && decide (i ≤ hi)) = _; rw [decide_eq_false h1, Bool.false_and]] at k
      exact k
theorem d_need_letters (T : Txt K mg) (F : FD K mg "need_letters" s_need_letters) (c_is_between : Dn P w K mg base 2 "is_between" s_is_between ["value", "least", "most"] (spBetween)) : Dn P w K mg base 3 "need_letters" s_need_letters ["value"] (spNeedL) := by
  refine dn_of F (fun _ _ _ _ _ _ us hl => match us, hl with | [_], _ => rfl) sc_need_letters (fun vs H Q E h => ?_) (fun fa cdv A outer s H vs Q E hr h => ?_)
  · obtain ⟨q, rfl, _⟩ := h
    rfl
  · obtain ⟨q, rfl, h1, h2, k⟩ := h
    refine ⟨_, PSs.nox (pss_one (ps_if (pt_not (pt_val (pe_d c_is_between hr (by decide) rfl (pa_cons (pv 0) (pa_cons (pe_gv rfl T.g_LEAST_LETTERS) (pa_cons (pe_gv rfl T.g_MOST_LETTERS) pa_nil)))) (by intro _; rfl)))
 (pss_one ps_never)
 pss_nil)), ?_⟩
    refine w_start (σ := [some (.int q)]) rfl ?_
    repeat walk_at "st"
    refine ⟨.int q, "int", 2, 26, rfl, .int q, ?_⟩
    have e : betV 2 26 (.int q) = true := by
      show (decide (2 ≤ q) && decide (q ≤ 26)) = true
      rw [decide_eq_true h1, decide_eq_true h2]
      rfl
    repeat walk_at "st"
    refine w_iteF (by rw [e]; rfl) ?_
    repeat walk_at "st"
    exact k
/-- the letters a to z -/
def abcL : List Nat := (List.range 26).map (97 + ·)
theorem abc_S : (("abcdefghijklmnopqrstuvwxyz" : Str)) = SX.S abcL := by decide +kernel
def spSigns : Sp := fun vs H Q _ => ∃ q : Int, vs = [.int q] ∧ 2 ≤ q ∧ q ≤ 26 ∧ Q (.str (SX.S (abcL.take q.toNat))) H
theorem d_signs_of (T : Txt K mg) (F : FD K mg "signs_of" s_signs_of) (c_need_letters : Dn P w K mg base 3 "need_letters" s_need_letters ["value"] (spNeedL)) : Dn P w K mg base 4 "signs_of" s_signs_of ["letters"] (spSigns) := by
  refine dn_of F (fun _ _ _ _ _ _ us hl => match us, hl with | [_], _ => rfl) sc_signs_of (fun vs H Q E h => ?_) (fun fa cdv A outer s H vs Q E hr h => ?_)
  · obtain ⟨q, rfl, _⟩ := h
    rfl
  · obtain ⟨q, rfl, h1, h2, k⟩ := h
    refine ⟨_, PSs.nox (pss_cons (ps_expr (pe_d c_need_letters hr (by decide) rfl (pa_cons (pv 0) pa_nil)))
 (pss_one (ps_ret (pe_slice sl_str (pe_gv rfl T.g_SIGNS) po_none (po_some (pv 0)))))), ?_⟩
    refine w_start (σ := [some (.int q)]) rfl ?_
    repeat walk_at "st"
    refine ⟨q, rfl, h1, h2, ?_⟩
    repeat walk_at "st"
    rw [abc_S, cutS_to (by omega)]
    exact k
/-- whether all signs of a text are among the first letters -/
def lettersOk (q : Nat) (l : List Nat) : Bool := l.all fun c => decide (c ∈ abcL.take q)
def isTextV (q : Nat) : V → Bool
  | .str z => lettersOk q z.cps.toList
  | _ => false
def smallV : V → Prop
  | .str z => z.length ≤ 1000000
  | _ => True
def spIsText : Sp := fun vs H Q _ => ∃ (x : V) (n : String) (q : Int), vs = [x, .int q] ∧ 2 ≤ q ∧ q ≤ 26 ∧ BV H x n ∧ smallV x ∧ ∀ H', Same H H' → Q (.bl (isTextV q.toNat x)) H'
theorem d_is_text (T : Txt K mg) (F : FD K mg "is_text" s_is_text) (c_need_letters : Dn P w K mg base 3 "need_letters" s_need_letters ["value"] (spNeedL)) : Dn P w K mg base 4 "is_text" s_is_text ["value", "letters"] (spIsText) := by
  refine dn_of F (fun _ _ _ _ _ _ us hl => match us, hl with | [_, _], _ => rfl) sc_is_text (fun vs H Q E h => ?_) (fun fa cdv A outer s H vs Q E hr h => ?_)
  · obtain ⟨x, n, q, rfl, _⟩ := h
    rfl
  · obtain ⟨x, n, q, rfl, h1, h2, b, sm, k⟩ := h
    refine ⟨_, PSs.nox (pss_cons (ps_expr (pe_d c_need_letters hr (by decide) rfl (pa_cons (pv 1) pa_nil)))
 (pss_one (ps_ret (pe_and (pe_callB call_isi (by rfl) T.n_isinstance (by decide +kernel) (pa_cons (pv 0) (pa_cons (pe_bltn (v := .ty "str") (by rfl) T.n_str (by decide +kernel) rfl) pa_nil))) (pe_one (pe_callB (cr_all rfl) (by rfl) T.n_all (by decide +kernel) (pa_cons (pe_lc (own := [("sign", 2)]) (tt := tYes) (g := gName 2) rfl sc_is_text.nd (pi_str (pv 0)) (blkOk_by (N := ["value", "letters", "sign"]) (sc := defScope s_is_text) (by decide +kernel)) (fun _ _ _ _ _ => (pg_name (i := 2) sc_is_text.nd rfl (Or.inl rfl))) (fun _ _ _ _ _ => pts_nil) (fun _ _ _ _ _ => (pe_cmpR op_in1 (pv 2) (pe_slice sl_str (pe_gv rfl T.g_SIGNS) po_none (po_some (pv 1))) (by rfl)))) pa_nil))))))), ?_⟩
    refine w_start (σ := [some x, some (.int q), none]) rfl ?_
    repeat walk_at "st"
    refine ⟨q, rfl, h1, h2, ?_⟩
    repeat walk_at "st"
    refine w_isiStr b ?_
    cases b with
    | str z =>
      have hz : z.length ≤ sizeLine := Nat.le_trans sm (by decide)
      repeat walk_at "st"
      refine lc_str H z (fun c => .bl (decide (c ∈ abcL.take q.toNat))) (fun R hR => ?_) hz (fun c hc H' e R hR => ?_) fun D H' h3 h4 h5 => ?_
      · repeat walk_at "st"
        exact hR
      · simp only [wipe, List.map, List.set]
        repeat walk_at "st"
        rw [abc_S, cutS_to (by omega)]
        repeat walk_at "st"
        exact hR _ (Same.refl _)
      · repeat walk_at "st"
        refine w_all (bs := z.cps.toList.map fun c => decide (c ∈ abcL.take q.toNat)) (by rw [h5, List.map_map]; rfl) ?_
        have e : (z.cps.toList.map fun c => decide (c ∈ abcL.take q.toNat)).all id = lettersOk q.toNat z.cps.toList := by
          unfold lettersOk
          rw [List.all_map]
          rfl
        rw [e]
        exact k _ h4
    | _ =>
      repeat walk_at "st"
      exact k _ (Same.refl _)
end

/-! ### the law's own look at numbers -/
def spLawNum : Sp := fun vs H Q _ => ∃ (l : List Nat), vs = [.str (SX.S l)] ∧ l.length ≤ 1000000 ∧ (∀ c ∈ l, c < 128) ∧ ∀ H', Same H H' → Q (.bl (numO l).isSome) H'
section
variable {P : Program} {w : World} {K : PySem.W.Frag} {mg : Str → Option Value} {base : Heap}
theorem d_law_number (T : Txt K mg) (F : FD K mg "_law_number" s_law_number) : Dn P w K mg base 1 "_law_number" s_law_number ["word"] (spLawNum) := by
  refine dn_of F (fun _ _ _ _ _ _ us hl => match us, hl with | [_], _ => rfl) sc_law_number (fun vs H Q E h => ?_) (fun fa cdv A outer s H vs Q E hr h => ?_)
  · obtain ⟨l, rfl, _⟩ := h
    rfl
  · obtain ⟨l, rfl, hl, h128, k⟩ := h
    have hz : (SX.S l).length ≤ sizeLine := by
      rw [sx_len]
      exact Nat.le_trans hl (by decide)
    refine ⟨_, PSs.nox (pss_cons (ps_set (i := 1) sc_law_number.nd rfl (Or.inl rfl) (pe_ifExp (pt_cmpR op_eq (pe_slice sl_str (pv 0) po_none (po_some pe_int)) pe_str (nomark _)) (pe_slice sl_str (pv 0) (po_some pe_int) po_none) (pv 0)))
 (pss_cons (ps_if (PW.pt (pw_or (pt_cmpR op_eq (pv 1) pe_str (nomark _)) (pw_or (pt_cmpR op_gt (pe_callB cl_lenS (by rfl) T.n_len (by decide +kernel) (pa_cons (pv 1) pa_nil)) pe_int (nomark _)) (pw_or1 (pt_cmpR (op_neD hr.units) (pe_lc (own := [("sign", 2)]) (g := gName 2) rfl sc_law_number.nd (pi_str (pv 1)) (blkOk_by (N := ["word", "figures", "sign"]) (sc := defScope s_law_number) (by decide +kernel)) (fun _ _ _ _ _ => (pg_name (i := 2) sc_law_number.nd rfl (Or.inl rfl))) (fun _ _ _ _ _ => (pts_one (pt_cmpR op_notIn1 (pv 2) pe_str (by rfl)))) (fun _ _ _ _ _ => (pv 2))) (pe_lst pa_nil) (nomark _))))))
 (pss_one (ps_ret pe_bl))
 pss_nil)
 (pss_one (ps_ret (pe_cmpR op_eq (pe_callTy cl_strI (by rfl) T.n_str (by decide +kernel) (pa_cons (pe_callTy cl_intS (by rfl) T.n_int (by decide +kernel) (pa_cons (pv 0) pa_nil)) pa_nil)) (pv 0) (nomark _)))))), ?_⟩
    refine w_start (σ := [some (.str (SX.S l)), none, none]) rfl ?_
    with_reducible refine w_join (fun σ' H' => σ' = [some (.str (SX.S l)), some (.str (SX.S (figL l))), none] ∧ H' = H) (fun X hX => ?_) ?_
    · repeat walk_at "st"
      rw [cutS_to (by decide), dash_S, eqS]
      rcases fig_split l with ⟨r, rfl, e1, _⟩ | ⟨h1, e1, _⟩
      · refine w_iteT (by rfl) ?_
        repeat walk_at "st"
        rw [cutS_from (by decide)]
        exact hX _ _ ⟨by rw [e1]; rfl, rfl⟩
      · refine w_iteF (decide_eq_false h1) ?_
        repeat walk_at "st"
        exact hX _ _ ⟨by rw [e1], rfl⟩
    · rintro σ' H' ⟨rfl, rfl⟩
      have hf0 : (∀ c ∈ figL l, c ∈ l) ∧ (figL l).length ≤ l.length := by
        rcases fig_split l with ⟨r, rfl, e1, _⟩ | ⟨_, e1, _⟩
        · rw [e1]
          exact ⟨fun c hc => List.mem_cons_of_mem _ hc, by rw [List.length_cons]; omega⟩
        · rw [e1]
          exact ⟨fun c hc => hc, Nat.le_refl _⟩
      have hf : (SX.S (figL l)).length ≤ sizeLine := by
        rw [sx_len] at hz ⊢
        exact Nat.le_trans hf0.2 hz
      with_reducible refine w_join (fun σ' H'' => okL l = true ∧ σ' = [some (.str (SX.S l)), some (.str (SX.S (figL l))), none] ∧ Same H' H'') (fun X hX => ?_) ?_
      · repeat walk_at "st"
        rw [empty_S, eqS]
        refine w_ite (fun h1 => ?_) (fun h1 => ?_)
        · repeat walk_at "st"
          rw [numO_bad fun z => (okL_parts z).1 h1] at k
          exact k _ (Same.refl _)
        · repeat walk_at "st"
          rw [sx_len]
          refine w_ite (fun h2 => ?_) (fun h2 => ?_)
          · repeat walk_at "st"
            rw [numO_bad fun z => by have := (okL_parts z).2.1; omega] at k
            exact k _ (Same.refl _)
          · repeat walk_at "st"
            refine lc_strBy H' (SX.S (figL l)) (fun c => !decide (c ∈ digL)) (fun c => .str ⟨#[c]⟩) (fun R hR => ?_) hf (fun c hc H1 e R hR => ?_) (fun c hc hp H1 e R hR => ?_) fun D H1 h3 h4 h5 => ?_
            · repeat walk_at "st"
              exact hR
            · simp only [wipe, List.map, List.set]
              repeat walk_at "st"
              rw [dig_S]
              exact hR _ (Same.refl _)
            · simp only [wipe, List.map, List.set]
              repeat walk_at "st"
              exact hR _ (Same.refl _)
            · repeat walk_at "st"
              refine ⟨by decide, fun q hq => ?_⟩
              have nq : D ≠ q := ne_of_none h5 hq
              refine w_neNilS (cs := (figL l).filter fun c => !decide (c ∈ digL)) (by rw [upd_ne nq]; exact h5) upd_same (fun c hc => h128 c (hf0.1 c (List.mem_filter.mp hc).1)) ?_
              repeat walk_at "st"
              have h4' : Same H' (upd H1 q (.lst [])) := h4.trans (fun b o hb => by rw [upd_ne (ne_of_none hb hq)]; exact hb)
              have hall : ((figL l).filter (fun c => !decide (c ∈ digL)) = []) ↔ (figL l).all (fun c => decide (c ∈ digL)) = true := by
                rw [List.filter_eq_nil_iff, List.all_eq_true]
                refine forall_congr' fun c => forall_congr' fun hc => ?_
                cases decide (c ∈ digL) <;> simp
              refine w_itN (fun h6 => ?_) (fun h6 => ?_)
              · repeat walk_at "st"
                have h7 : ¬ okL l = true := fun z => h6 (hall.mpr (List.all_eq_true.mpr fun c hc => decide_eq_true (dig_iff.mpr ((okL_parts z).2.2 c hc))))
                rw [numO_bad h7] at k
                exact k _ h4'
              · repeat walk_at "st"
                refine hX _ _ ⟨?_, rfl, h4'⟩
                unfold okL
                rw [hall.mp h6, decide_eq_false h1, decide_eq_true (show (figL l).length ≤ 60 by omega)]
                rfl
      · rintro σ' H1 ⟨ok, rfl, e⟩
        obtain ⟨hi1, hi2⟩ := int_ok ok
        repeat walk_at "st"
        refine w_intS hi1 hi2 ?_
        repeat walk_at "st"
        refine w_strI (log_lt (Nat.lt_of_lt_of_le (valL_lt ok) (by decide +kernel))) ?_
        repeat walk_at "st"
        rw [toString_S, eqS]
        have hn : (numO l).isSome = decide (intL (valL l) = l) := by
          unfold numO
          by_cases h : intL (valL l) = l
          · rw [if_pos ⟨ok, h⟩, decide_eq_true h]
            rfl
          · rw [if_neg fun z => h z.2, decide_eq_false h]
            rfl
        rw [hn] at k
        exact k _ e
def spNumsR : Sp := fun vs H Q _ => ∃ (p c : Addr) (n : Int), vs = [.ref p] ∧ PenB H p c n ∧ n ≤ 90000 ∧ ∀ H', Keep p H H' → PenB H' p c (n + 5) → Q (.bl true) H'
theorem d_law_numbers_right (T : Txt K mg) (F : FD K mg "_law_numbers_right" s_law_numbers_right) (c_law_pick : Dn P w K mg base 2 "_law_pick" s_law_pick ["pen", "some"] (spPick K)) (c_law_draw : Dn P w K mg base 1 "_law_draw" s_law_draw ["pen", "many"] (spDraw)) (c_law_number : Dn P w K mg base 1 "_law_number" s_law_number ["word"] (spLawNum)) (c_number_of : Dn P w K mg base 1 "number_of" s_number_of ["word", "least", "most"] (spNumOf)) : Dn P w K mg base 3 "_law_numbers_right" s_law_numbers_right ["pen"] (spNumsR) := by
  refine dn_of F (fun _ _ _ _ _ _ us hl => match us, hl with | [_], _ => rfl) sc_law_numbers_right (fun vs H Q E h => ?_) (fun fa cdv A outer s H vs Q E hr h => ?_)
  · obtain ⟨p, c, n, rfl, _⟩ := h
    rfl
  · obtain ⟨p, c, n, rfl, hp, hn, k⟩ := h
    refine ⟨_, PSs.nox (pss_cons (ps_set (i := 1) sc_law_numbers_right.nd rfl (Or.inl rfl) (pe_d c_law_pick hr (by decide) rfl (pa_cons (pv 0) (pa_cons (pe_lst (pa_cons pe_int (pa_cons pe_int (pa_cons (pe_un un_neg pe_int) (pa_cons (pe_op op_pow pe_int pe_int) (pa_cons (pe_un un_neg (pe_op op_pow pe_int pe_int)) (pa_cons (pe_op op_pow pe_int pe_int) (pa_cons (pe_op op_sub (pe_d c_law_draw hr (by decide) rfl (pa_cons (pv 0) (pa_cons pe_int pa_nil))) pe_int) pa_nil)))))))) pa_nil))))
 (pss_cons (ps_set (i := 2) sc_law_numbers_right.nd rfl (Or.inl rfl) (pe_lst (pa_cons (pe_callTy cl_strI (by rfl) T.n_str (by decide +kernel) (pa_cons (pv 1) pa_nil)) (pa_cons (pe_op op_addS pe_str (pe_callTy cl_strI (by rfl) T.n_str (by decide +kernel) (pa_cons (pv 1) pa_nil))) (pa_cons (pe_op op_addS (pe_callTy cl_strI (by rfl) T.n_str (by decide +kernel) (pa_cons (pv 1) pa_nil)) pe_str) (pa_cons (pe_op op_addS pe_str (pe_callTy cl_strI (by rfl) T.n_str (by decide +kernel) (pa_cons (pv 1) pa_nil))) (pa_cons (pe_op op_addS pe_str (pe_callTy cl_strI (by rfl) T.n_str (by decide +kernel) (pa_cons (pv 1) pa_nil))) (pa_cons pe_str (pa_cons pe_str (pa_cons pe_str (pa_cons pe_str (pa_cons (pe_op op_addS pe_str (pe_op op_mulS pe_str pe_int)) (pa_cons (pe_op op_addS (pe_callTy cl_strI (by rfl) T.n_str (by decide +kernel) (pa_cons (pv 1) pa_nil)) pe_str) pa_nil)))))))))))))
 (pss_cons (ps_set (i := 3) sc_law_numbers_right.nd rfl (Or.inl rfl) (pe_d c_law_pick hr (by decide) rfl (pa_cons (pv 0) (pa_cons (pv 2) pa_nil))))
 (pss_cons (ps_par (i := 4) (j := 5) (by rfl) sc_law_numbers_right.nd rfl rfl (by decide) rfl rfl (pa_cons (pe_op op_sub (pv 1) (pe_d c_law_draw hr (by decide) rfl (pa_cons (pv 0) (pa_cons pe_int pa_nil)))) (pa_cons (pe_op op_add (pv 1) (pe_d c_law_draw hr (by decide) rfl (pa_cons (pv 0) (pa_cons pe_int pa_nil)))) pa_nil)) (by rfl))
 (pss_cons (ps_set (i := 6) sc_law_numbers_right.nd rfl (Or.inl rfl) (pe_ifExp (PW.pt (pw_and (pt_val (pe_d c_law_number hr (by decide) rfl (pa_cons (pv 3) pa_nil)) (by intro _; rfl)) (pw_and1 (pt_chain op_le op_le (pv 4) (pe_callTy cl_intS (by rfl) T.n_int (by decide +kernel) (pa_cons (pv 3) pa_nil)) (pv 5))))) (pe_callTy cl_intS (by rfl) T.n_int (by decide +kernel) (pa_cons (pv 3) pa_nil)) pe_non))
 (pss_cons (ps_if (PW.pt (pw_or (pt_cmpR op_ne (pe_d c_number_of hr (by decide) rfl (pa_cons (pv 3) (pa_cons (pv 4) (pa_cons (pv 5) pa_nil)))) (pv 6) (nomark _)) (pw_or1 (pt_cmpR op_ne (pe_dN0 c_number_of hr (by decide) rfl kw0 (pk_cons (pv 5) (pk_cons (pv 4) (pk_cons (pv 3) pk_nil)))) (pv 6) (nomark _)))))
 (pss_one (ps_ret pe_bl))
 pss_nil)
 (pss_one (ps_ret (pe_cmpR (op_eqD hr.units) (pe_tup (pa_cons (pe_d c_number_of hr (by decide) rfl (pa_cons (pe_callTy cl_strI (by rfl) T.n_str (by decide +kernel) (pa_cons (pv 1) pa_nil)) (pa_cons (pe_op op_add (pv 1) pe_int) (pa_cons (pe_op op_add (pv 1) pe_int) pa_nil)))) (pa_cons (pe_d c_number_of hr (by decide) rfl (pa_cons (pe_callTy cl_strI (by rfl) T.n_str (by decide +kernel) (pa_cons (pv 1) pa_nil)) (pa_cons (pe_op op_sub (pv 1) pe_int) (pa_cons (pe_op op_sub (pv 1) pe_int) pa_nil)))) pa_nil))) (pe_tup (pa_cons pe_non (pa_cons pe_non pa_nil))) (nomark _)))))))))), ?_⟩
    refine w_start (σ := [some (.ref p), none, none, none, none, none, none]) rfl ?_
    repeat walk_at "st"
    refine ⟨p, c, 1000, n, rfl, by decide, by decide +kernel, hp, by omega, fun d H1 d0 d1 e1 hp1 => ?_⟩
    repeat walk_at "st"
    refine ⟨by walk_at "len", fun q hq => ?_⟩
    refine pick_new hq hp1 (by omega) (by simp) (by simp) fun v H2 hv e2 hp2 => ?_
    obtain ⟨held, rfl, hh⟩ : ∃ i, v = .int i ∧ i.natAbs ≤ 10 ^ 59 := by
      simp only [List.mem_cons, List.not_mem_nil, or_false] at hv
      rcases hv with rfl | rfl | rfl | rfl | rfl | rfl | rfl
      · exact ⟨_, rfl, by decide +kernel⟩
      · exact ⟨_, rfl, by decide +kernel⟩
      · exact ⟨_, rfl, by decide +kernel⟩
      · exact ⟨_, rfl, by decide +kernel⟩
      · exact ⟨_, rfl, by decide +kernel⟩
      · exact ⟨_, rfl, by decide +kernel⟩
      · exact ⟨_, rfl, Nat.le_trans (show (d - 500).natAbs ≤ 1000 by omega) (by decide +kernel)⟩
    have hlog : held.natAbs.log2 < 1920 := log_lt (Nat.lt_of_le_of_lt hh (by decide +kernel))
    have hlen : (intL held).length ≤ 61 := intL_len (k := 60) (by decide) (Nat.lt_of_le_of_lt hh (by decide +kernel))
    have hT : (Str.ofString (toString held)).length ≤ 1000000 := by
      rw [toString_S, sx_len]
      omega
    have hc128 : ∀ c ∈ intL held, c < 128 := fun c hc => by
      rcases intL_codes held c hc with rfl | h
      · decide
      · omega
    repeat walk_at "st"
    refine ⟨by walk_at "len", fun q3 hq3 => ?_⟩
    repeat walk_at "st"
    refine pick_new hq3 hp2 (by omega) (by simp) (by simp) fun v H3 hv e3 hp3 => ?_
    obtain ⟨l, rfl, hl, hl128⟩ : ∃ l, v = .str (SX.S l) ∧ l.length ≤ 100 ∧ ∀ c ∈ l, c < 128 := by
      rw [toString_S] at hv
      simp only [List.mem_cons, List.not_mem_nil, or_false] at hv
      rcases hv with rfl | rfl | rfl | rfl | rfl | rfl | rfl | rfl | rfl | rfl | rfl
      · exact ⟨intL held, rfl, by omega, hc128⟩
      · exact ⟨48 :: intL held, congrArg V.str (SX.S_cat [48] _), by rw [List.length_cons]; omega, fun c hc => (List.mem_cons.mp hc).elim (fun e => by omega) (hc128 c)⟩
      · exact ⟨intL held ++ [32], congrArg V.str (SX.S_cat _ [32]), by rw [List.length_append]; simp; omega, fun c hc => (List.mem_append.mp hc).elim (hc128 c) (fun e => by simp at e; omega)⟩
      · exact ⟨43 :: intL held, congrArg V.str (SX.S_cat [43] _), by rw [List.length_cons]; omega, fun c hc => (List.mem_cons.mp hc).elim (fun e => by omega) (hc128 c)⟩
      · exact ⟨45 :: intL held, congrArg V.str (SX.S_cat [45] _), by rw [List.length_cons]; omega, fun c hc => (List.mem_cons.mp hc).elim (fun e => by omega) (hc128 c)⟩
      · exact ⟨[], rfl, by decide, by decide⟩
      · exact ⟨[45], rfl, by decide, by decide⟩
      · exact ⟨[45, 48], rfl, by decide, by decide⟩
      · exact ⟨[49, 95, 48], rfl, by decide, by decide⟩
      · exact ⟨49 :: List.replicate 60 48, congrArg V.str (by decide +kernel), by decide, by decide⟩
      · exact ⟨intL held ++ [97], congrArg V.str (SX.S_cat _ [97]), by rw [List.length_append]; simp; omega, fun c hc => (List.mem_append.mp hc).elim (hc128 c) (fun e => by simp at e; omega)⟩
    repeat walk_at "st"
    refine ⟨p, c, 2, n + 1 + 1 + 1, rfl, by decide, by decide +kernel, hp3, by omega, fun a H4 a0 a1 e4 hp4 => ?_⟩
    repeat walk_at "st"
    refine ⟨p, c, 2, n + 1 + 1 + 1 + 1, rfl, by decide, by decide +kernel, hp4, by omega, fun b H5 b0 b1 e5 hp5 => ?_⟩
    iterate 5 walk_at "st"
    have kp : Keep p H H5 := (((e1.trans e2).trans e3).trans e4).trans e5
    have hz : (SX.S l).length ≤ 1000000 := by
      rw [sx_len]
      omega
    with_reducible refine w_join (fun σ' H' => σ' = [some (.ref p), some (.int held), some (.ref q3), some (.str (SX.S l)), some (.int (held - a)), some (.int (held + b)), some (numV l (held - a) (held + b))] ∧ Same H5 H') (fun X hX => ?_) ?_
    · repeat walk_at "st"
      refine ⟨l, rfl, by omega, hl128, fun H6 e6 => ?_⟩
      repeat walk_at "st"
      cases hnu : numO l with
      | none =>
        refine w_iteF rfl ?_
        repeat walk_at "st"
        exact hX _ _ ⟨by rw [numV_none hnu], e6⟩
      | some m =>
        have hok : okL l = true ∧ intL (valL l) = l := by
          by_cases h : okL l = true ∧ intL (valL l) = l
          · exact h
          · rw [show numO l = none from if_neg h] at hnu
            cases hnu
        have hm : m = valL l := by
          rw [show numO l = some (valL l) from if_pos hok] at hnu
          injection hnu with hnu
          exact hnu.symm
        obtain ⟨hi1, hi2⟩ := int_ok hok.1
        refine w_iteT rfl ?_
        repeat walk_at "st"
        refine w_intS hi1 hi2 ?_
        repeat walk_at "st"
        refine w_ite (fun h1 => ?_) (fun h1 => ?_)
        · repeat walk_at "st"
          refine w_ite (fun h2 => ?_) (fun h2 => ?_)
          · repeat walk_at "st"
            refine w_intS hi1 hi2 ?_
            repeat walk_at "st"
            exact hX _ _ ⟨by rw [numV_in hnu (by rw [hm]; exact ⟨h1, h2⟩), hm], e6⟩
          · repeat walk_at "st"
            exact hX _ _ ⟨by rw [numV_out hnu (by rw [hm]; exact fun z => h2 z.2)], e6⟩
        · repeat walk_at "st"
          exact hX _ _ ⟨by rw [numV_out hnu (by rw [hm]; exact fun z => h1 z.1)], e6⟩
    · rintro σ' H6 ⟨rfl, e6⟩
      have hscal : scal (numV l (held - a) (held + b)) (numV l (held - a) (held + b)) = true := by
        unfold numV
        split
        · split <;> rfl
        · rfl
      with_reducible refine w_seq ?_
      repeat walk_at "st"
      refine ⟨l, _, _, rfl, by omega, fun H7 e7 => ?_⟩
      repeat walk_at "st"
      refine w_ne hscal ?_
      repeat walk_at "st"
      refine w_iteF (by simp) ?_
      repeat walk_at "st"
      refine ⟨rfl, rfl, l, held - a, held + b, rfl, by omega, fun H8 e8 => ?_⟩
      repeat walk_at "st"
      refine w_ne hscal ?_
      repeat walk_at "st"
      refine w_iteF (by simp) ?_
      repeat walk_at "st"
      rw [toString_S]
      refine ⟨intL held, _, _, rfl, by omega, fun H9 e9 => ?_⟩
      have n1 : numV (intL held) (held + 1) (held + 5) = .non := by
        cases hnu : numO (intL held) with
        | none => exact numV_none hnu
        | some m =>
          have := numO_intL hnu
          exact numV_out hnu (by omega)
      have n2 : numV (intL held) (held - 5) (held - 1) = .non := by
        cases hnu : numO (intL held) with
        | none => exact numV_none hnu
        | some m =>
          have := numO_intL hnu
          exact numV_out hnu (by omega)
      rw [n1]
      repeat walk_at "st"
      rw [toString_S]
      refine ⟨intL held, _, _, rfl, by omega, fun H10 e10 => ?_⟩
      rw [n2]
      repeat walk_at "st"
      refine ⟨by walk_at "len", fun t1 ht1 => ?_⟩
      repeat walk_at "st"
      refine ⟨by walk_at "len", fun t2 ht2 => ?_⟩
      have nt : t1 ≠ t2 := ne_of_none upd_same ht2
      refine w_eqD (d := .tuple [.none, .none]) (e := .tuple [.none, .none]) (.tup (SqT.of (by rw [upd_ne nt, upd_same])) (.cons .non (.cons .non .nil))) (.tup (SqT.of upd_same) (.cons .non (.cons .non .nil))) (by decide) (by decide) rfl ?_
      have eS : Same H5 H10 := (((e6.trans e7).trans e8).trans e9).trans e10
      have hp10 := hp5.same eS
      have kp10 := kp.same eS
      refine k _ ?_ ((((hp10.new ht1).new ht2)).mono (by omega))
      exact (kp10.alloc hp10 ht1).alloc (hp10.new ht1) ht2
end

/-! ### the law's look at kinds -/
theorem lettersOk_bad {q c : Nat} {l : List Nat} (h : c ∈ l) (hc : c ∉ abcL) : lettersOk q l = false := by
  unfold lettersOk
  rw [List.all_eq_false]
  exact ⟨c, h, by rw [decide_eq_true_iff]; exact fun z => hc (List.mem_of_mem_take z)⟩
theorem lettersOk_good {q : Nat} {l : List Nat} (h : ∀ c ∈ l, c ∈ abcL.take q) : lettersOk q l = true := by
  unfold lettersOk
  rw [List.all_eq_true]
  exact fun c hc => decide_eq_true (h c hc)
theorem BV.keep {H H' : Hp} {p : Addr} {x : V} {n : String} (e : Keep p H H') (hx : x ≠ .ref p) (b : BV H x n) : BV H' x n := by
  cases b with
  | non => exact .non
  | bl b => exact .bl b
  | int i => exact .int i
  | str z => exact .str z
  | lst h => exact .lst (e _ _ (fun z => hx (by rw [z])) h)
  | tup h => exact .tup (e _ _ (fun z => hx (by rw [z])) h)
  | dK h => exact .dK (e _ _ (fun z => hx (by rw [z])) h)
theorem betV_of {lo hi : Int} {x : V} (h : isIntV x = false) : betV lo hi x = false := by
  cases x <;> first | rfl | cases h
theorem joinL_nil : ∀ cs : List Nat, TL.joinL [] (cs.map fun c => [c]) = cs
  | [] => rfl
  | [c] => rfl
  | c :: d :: cs => by
    have ih := joinL_nil (d :: cs)
    show [c] ++ [] ++ TL.joinL [] ((d :: cs).map fun c => [c]) = c :: d :: cs
    rw [ih]
    rfl
theorem join_signs (cs : List Nat) : Txt.join (SX.S []) (cs.map fun c => (⟨#[c]⟩ : Str)) = SX.S cs := by
  have e : (cs.map fun c => (⟨#[c]⟩ : Str)) = (cs.map fun c => [c]).map SX.S := by
    rw [List.map_map]
    rfl
  rw [e, SX.join_S, joinL_nil]
theorem sum_ones (cs : List Nat) : ((cs.map fun c => (⟨#[c]⟩ : Str)).map (·.length)).sum = cs.length := by
  induction cs with
  | nil => rfl
  | cons c cs ih =>
    rw [List.map_cons, List.map_cons, List.sum_cons, ih, List.length_cons]
    show 1 + cs.length = cs.length + 1
    omega
theorem rep_codes (a : Array Nat) : ∀ (m : Nat) (acc : Array Nat), ((List.replicate m a).foldl (· ++ ·) acc).toList = acc.toList ++ (List.replicate m a.toList).flatten
  | 0, acc => by simp
  | m + 1, acc => by
    rw [List.replicate_succ, List.foldl_cons, rep_codes a m, Array.toList_append, List.replicate_succ, List.flatten_cons, List.append_assoc]
def spKindsR : Sp := fun vs H Q _ => ∃ (p c : Addr) (n : Int), vs = [.ref p] ∧ PenB H p c n ∧ n ≤ 90000 ∧ ∀ H', Keep p H H' → PenB H' p c (n + 20) → Q (.bl true) H'
section
variable {P : Program} {w : World} {K : PySem.W.Frag} {mg : Str → Option Value} {base : Heap}
theorem d_law_kinds_right (T : Txt K mg) (F : FD K mg "_law_kinds_right" s_law_kinds_right) (c_law_pick : Dn P w K mg base 2 "_law_pick" s_law_pick ["pen", "some"] (spPick K)) (c_law_draw : Dn P w K mg base 1 "_law_draw" s_law_draw ["pen", "many"] (spDraw)) (c_is_int : Dn P w K mg base 1 "is_int" s_is_int ["value"] (spIsInt)) (c_is_between : Dn P w K mg base 2 "is_between" s_is_between ["value", "least", "most"] (spBetween)) (c_is_text : Dn P w K mg base 4 "is_text" s_is_text ["value", "letters"] (spIsText)) (c_signs_of : Dn P w K mg base 4 "signs_of" s_signs_of ["letters"] (spSigns)) : Dn P w K mg base 5 "_law_kinds_right" s_law_kinds_right ["pen"] (spKindsR) := by
  refine dn_of F (fun _ _ _ _ _ _ us hl => match us, hl with | [_], _ => rfl) sc_law_kinds_right (fun vs H Q E h => ?_) (fun fa cdv A outer s H vs Q E hr h => ?_)
  · obtain ⟨p, c, n, rfl, _⟩ := h
    rfl
  · obtain ⟨p, c, n, rfl, hp, hn, k⟩ := h
    refine ⟨_, PSs.nox (pss_cons (ps_set (i := 1) sc_law_kinds_right.nd rfl (Or.inl rfl) (pe_d c_law_pick hr (by decide) rfl (pa_cons (pv 0) (pa_cons (pe_lst (pa_cons pe_non (pa_cons pe_bl (pa_cons pe_bl (pa_cons pe_str (pa_cons (pe_tup (pa_cons pe_int pa_nil)) (pa_cons (pe_lst (pa_cons pe_int pa_nil)) (pa_cons pe_dnewK (pa_cons (pe_disp (pps_cons pe_int pe_int pps_nil) (by rfl) (by rfl) (fun z => by cases z) (by decide)) pa_nil))))))))) pa_nil))))
 (pss_cons (ps_set (i := 2) sc_law_kinds_right.nd rfl (Or.inl rfl) (pe_op op_sub (pe_d c_law_draw hr (by decide) rfl (pa_cons (pv 0) (pa_cons pe_int pa_nil))) pe_int))
 (pss_cons (ps_if (PW.pt (pw_or (pt_val (pe_d c_is_int hr (by decide) rfl (pa_cons (pv 1) pa_nil)) (by intro _; rfl)) (pw_or (pt_val (pe_d c_is_between hr (by decide) rfl (pa_cons (pv 1) (pa_cons (pe_un un_neg pe_int) (pa_cons pe_int pa_nil)))) (by intro _; rfl)) (pw_or (pt_not (pt_val (pe_d c_is_int hr (by decide) rfl (pa_cons (pv 2) pa_nil)) (by intro _; rfl))) (pw_or1 (pt_val (pe_d c_is_between hr (by decide) rfl (pa_cons (pv 2) (pa_cons (pe_op op_add (pv 2) pe_int) (pa_cons (pe_op op_add (pv 2) pe_int) pa_nil)))) (by intro _; rfl)))))))
 (pss_one (ps_ret pe_bl))
 pss_nil)
 (pss_cons (ps_if (PW.pt (pw_or (pt_cmpR op_isNotB (pe_dN0 c_is_between hr (by decide) rfl kw1 (pk_cons (pv 2) (pk_cons (pv 2) (pk_cons (pv 2) pk_nil)))) pe_bl (nomark _)) (pw_or1 (pt_cmpR op_isNotB (pe_dN0 c_is_int hr (by decide) rfl kw2 (pk_cons (pe_op op_pow pe_int pe_int) pk_nil)) pe_bl (nomark _)))))
 (pss_one (ps_ret pe_bl))
 pss_nil)
 (pss_cons (ps_set (i := 3) sc_law_kinds_right.nd rfl (Or.inl rfl) (pe_op op_add pe_int (pe_d c_law_draw hr (by decide) rfl (pa_cons (pv 0) (pa_cons pe_int pa_nil)))))
 (pss_cons (ps_set (i := 4) sc_law_kinds_right.nd rfl (Or.inr rfl) (pe_slice sl_str pe_str po_none (po_some (pv 3))))
 (pss_cons (ps_set (i := 5) sc_law_kinds_right.nd rfl (Or.inl rfl) (pe_join pe_str (pe_lc (own := [("lap", 7)]) (tt := tYes) (g := gName 7) rfl sc_law_kinds_right.nd (pi_range1 rfl T.n_range (pa_cons (pe_d c_law_draw hr (by decide) rfl (pa_cons (pv 0) (pa_cons pe_int pa_nil))) pa_nil)) (blkOk_by (N := ["pen", "odd", "held", "many", "signs_so", "wording", "bad", "lap"]) (sc := defScope s_law_kinds_right) (by decide +kernel)) (fun _ _ _ _ _ => (pg_name (i := 7) sc_law_kinds_right.nd rfl (Or.inl rfl))) (fun _ _ _ _ _ => pts_nil) (fun _ _ _ _ _ => (pe_d c_law_pick hr (by decide) rfl (pa_cons (pv 0) (pa_cons (pv 4) pa_nil)))))))
 (pss_cons (ps_if (PW.pt (pw_or (pt_cmpR op_ne (pe_d c_signs_of hr (by decide) rfl (pa_cons (pv 3) pa_nil)) (pv 4) (nomark _)) (pw_or (pt_cmpR op_ne (pe_dN0 c_signs_of hr (by decide) rfl kw3 (pk_cons (pv 3) pk_nil)) (pv 4) (nomark _)) (pw_or1 (pt_cmpR op_isNotB (pe_d c_is_text hr (by decide) rfl (pa_cons (pv 5) (pa_cons (pv 3) pa_nil))) pe_bl (nomark _))))))
 (pss_one (ps_ret pe_bl))
 pss_nil)
 (pss_cons (ps_set (i := 6) sc_law_kinds_right.nd rfl (Or.inl rfl) (pe_d c_law_pick hr (by decide) rfl (pa_cons (pv 0) (pa_cons (pe_lst (pa_cons pe_str (pa_cons pe_str (pa_cons pe_str (pa_cons pe_str (pa_cons pe_str (pa_cons pe_str (pa_cons pe_str pa_nil)))))))) pa_nil))))
 (pss_cons (ps_if (PW.pt (pw_or (pt_val (pe_d c_is_text hr (by decide) rfl (pa_cons (pv 6) (pa_cons pe_int pa_nil))) (by intro _; rfl)) (pw_or (pt_val (pe_d c_is_text hr (by decide) rfl (pa_cons (pe_op op_addS (pv 5) (pv 6)) (pa_cons (pv 3) pa_nil))) (by intro _; rfl)) (pw_or1 (pt_val (pe_dN0 c_is_text hr (by decide) rfl kw4 (pk_cons (pv 3) (pk_cons (pv 1) pk_nil))) (by intro _; rfl))))))
 (pss_one (ps_ret pe_bl))
 pss_nil)
 (pss_one (ps_ret (pe_and (pe_cmpR op_isB (pe_d c_is_text hr (by decide) rfl (pa_cons (pe_op op_mulS pe_str pe_int) (pa_cons pe_int pa_nil))) pe_bl (nomark _)) (pe_one (pe_cmpR op_isB (pe_d c_is_text hr (by decide) rfl (pa_cons (pv 4) (pa_cons (pe_op op_sub (pv 3) pe_int) pa_nil))) pe_bl (nomark _)))))))))))))))), ?_⟩
    refine w_start (σ := [some (.ref p), none, none, none, none, none, none, none]) rfl ?_
    repeat walk_at "st"
    refine ⟨by walk_at "len", fun t1 ht1 => ?_⟩
    have e1 := (Keep.refl p H).alloc (o := .tup [.int 3]) hp ht1
    have hp1 := hp.new (o := .tup [.int 3]) ht1
    repeat walk_at "st"
    refine ⟨by walk_at "len", fun l1 hl1 => ?_⟩
    have e2 := e1.alloc (o := .lst [.int 3]) hp1 hl1
    have hp2 := hp1.new (o := .lst [.int 3]) hl1
    repeat walk_at "st"
    refine fun d1 hd1 => ?_
    have e3 := e2.alloc (o := .dK []) hp2 hd1
    have hp3 := hp2.new (o := .dK []) hd1
    repeat walk_at "st"
    refine fun d2 hd2 => ?_
    refine ⟨upd_same, [(Sum.inl 3, .int 3)], rfl, by decide, ?_⟩
    rw [upd_upd]
    have e4 := e3.alloc (o := .dK (mergeK [] [(Sum.inl 3, .int 3)])) hp3 hd2
    have hp4 := hp3.new (o := .dK (mergeK [] [(Sum.inl 3, .int 3)])) hd2
    repeat walk_at "st"
    refine ⟨by walk_at "len", fun q hq => ?_⟩
    repeat walk_at "st"
    have f1 : t1 ≠ p := hp.free ht1
    have f2 : l1 ≠ p := hp1.free hl1
    have f3 : d1 ≠ p := hp2.free hd1
    have f4 : d2 ≠ p := hp3.free hd2
    refine pick_new hq hp4 (by omega) (by simp) (by simp) fun odd H1 hv e5 hp5 => ?_
    obtain ⟨no, hb, hi, ht, hsm⟩ : ∃ no, BV H1 odd no ∧ isIntV odd = false ∧ (∀ q, isTextV q odd = false) ∧ smallV odd := by
      have n21 : t1 ≠ l1 := ne_of_none upd_same hl1
      have g1 : upd (upd H t1 (.tup [.int 3])) l1 (.lst [.int 3]) t1 = some (.tup [.int 3]) := by rw [upd_ne n21, upd_same]
      have n31 : t1 ≠ d1 := ne_of_none g1 hd1
      have n32 : l1 ≠ d1 := ne_of_none upd_same hd1
      have g2 : upd (upd (upd H t1 (.tup [.int 3])) l1 (.lst [.int 3])) d1 (.dK []) t1 = some (.tup [.int 3]) := by rw [upd_ne n31]; exact g1
      have g3 : upd (upd (upd H t1 (.tup [.int 3])) l1 (.lst [.int 3])) d1 (.dK []) l1 = some (.lst [.int 3]) := by rw [upd_ne n32, upd_same]
      have n41 : t1 ≠ d2 := ne_of_none g2 hd2
      have n42 : l1 ≠ d2 := ne_of_none g3 hd2
      have n43 : d1 ≠ d2 := ne_of_none upd_same hd2
      simp only [List.mem_cons, List.not_mem_nil, or_false] at hv
      rcases hv with rfl | rfl | rfl | rfl | rfl | rfl | rfl | rfl
      · exact ⟨_, .non, rfl, fun _ => rfl, trivial⟩
      · exact ⟨_, .bl _, rfl, fun _ => rfl, trivial⟩
      · exact ⟨_, .bl _, rfl, fun _ => rfl, trivial⟩
      · exact ⟨_, .str _, rfl, fun _ => lettersOk_bad (c := 51) (by decide +kernel) (by decide), by show Str.length _ ≤ 1000000; decide +kernel⟩
      · exact ⟨_, .tup (e5 _ _ f1 (by rw [upd_ne n41]; exact g2)), rfl, fun _ => rfl, trivial⟩
      · exact ⟨_, .lst (e5 _ _ f2 (by rw [upd_ne n42]; exact g3)), rfl, fun _ => rfl, trivial⟩
      · exact ⟨_, .dK (e5 _ _ f3 (by rw [upd_ne n43, upd_same])), rfl, fun _ => rfl, trivial⟩
      · exact ⟨_, .dK (e5 _ _ f4 upd_same), rfl, fun _ => rfl, trivial⟩
    have nodd : odd ≠ .ref p := by
      intro z
      subst z
      simp only [List.mem_cons, List.not_mem_nil, or_false, V.ref.injEq] at hv
      rcases hv with z | z | z | z | z | z | z | z <;> first | exact f1 z.symm | exact f2 z.symm | exact f3 z.symm | exact f4 z.symm | cases z
    have kp1 : Keep p H H1 := e4.trans e5
    clear hv e1 e2 e3 e4 e5 hp1 hp2 hp3 hp4
    repeat walk_at "st"
    refine ⟨p, c, 9, n + 1, rfl, by decide, by decide +kernel, hp5, by omega, fun d H2 d0 d9 e6 hp6 => ?_⟩
    have hb2 := hb.keep e6 nodd
    repeat walk_at "st"
    with_reducible refine w_seq ?_
    repeat walk_at "st"
    refine ⟨odd, no, rfl, hb2, ?_⟩
    repeat walk_at "st"
    refine w_iteF hi ?_
    repeat walk_at "st"
    refine ⟨odd, no, -9, 9, rfl, hb2, ?_⟩
    repeat walk_at "st"
    refine w_iteF (betV_of hi) ?_
    repeat walk_at "st"
    refine ⟨.int (d - 4), "int", rfl, .int _, ?_⟩
    repeat walk_at "st"
    refine ⟨.int (d - 4), "int", _, _, rfl, .int _, ?_⟩
    repeat walk_at "st"
    have b0 : betV (d - 4 + 1) (d - 4 + 2) (.int (d - 4)) = false := by
      show (decide (d - 4 + 1 ≤ d - 4) && decide (d - 4 ≤ d - 4 + 2)) = false
      rw [decide_eq_false (show ¬ (d - 4 + 1 ≤ d - 4) by omega)]; rfl
    refine w_iteF b0 ?_
    repeat walk_at "st"
    with_reducible refine w_seq ?_
    repeat walk_at "st"
    refine ⟨rfl, rfl, .int (d - 4), "int", d - 4, d - 4, rfl, .int _, ?_⟩
    repeat walk_at "st"
    have b1 : betV (d - 4) (d - 4) (.int (d - 4)) = true := by
      show (decide (d - 4 ≤ d - 4) && decide (d - 4 ≤ d - 4)) = true
      rw [decide_eq_true (Int.le_refl _)]
      rfl
    rw [b1]
    repeat walk_at "st"
    refine ⟨rfl, rfl, .int _, "int", rfl, .int _, ?_⟩
    repeat walk_at "st"
    refine ⟨p, c, 24, n + 1 + 1, rfl, by decide, by decide +kernel, hp6, by omega, fun m H3 m0 m24 e7 hp7 => ?_⟩
    obtain ⟨mq, hmq, hm3, hm26⟩ : ∃ mq : Nat, mq = (3 + m).toNat ∧ 3 ≤ mq ∧ mq ≤ 26 := ⟨(3 + m).toNat, rfl, by omega, by omega⟩
    have hb3 := hb2.keep e7 nodd
    repeat walk_at "st"
    rw [abc_S, cutS_to (by omega), ← hmq]
    repeat walk_at "st"
    refine ⟨⟨_, rfl⟩, ?_⟩
    refine w_lc ?_
    repeat walk_at "st"
    refine ⟨p, c, 9, n + 1 + 1 + 1, rfl, by decide, by decide +kernel, hp7, by omega, fun b H4 b0 b9 e8 hp8 => ?_⟩
    repeat walk_at "st"
    intro D hD
    have hDp : D ≠ p := hp8.free hD
    have hDc : D ≠ c := hp8.freeC hD
    refine L2.lc_range (fun i H' => ∃ cs : List Nat, cs.length = i ∧ (∀ c ∈ cs, c ∈ abcL.take mq) ∧ H' D = some (.lst (cs.map fun c => .str ⟨#[c]⟩)) ∧ Keep p H4 H' ∧ PenB H' p c (n + 1 + 1 + 1 + 1 + i)) ?_ ?_ ?_
    · exact ⟨[], rfl, fun c hc => (nomatch hc), upd_same, (Keep.refl p H4).alloc hp8 hD, by simpa using hp8.new hD⟩
    · rintro i H5 hi ⟨cs, hl, hcs, h5, e9, hp9⟩
      simp only [wipe, List.map]
      repeat walk_at "st"
      refine ⟨rfl, ?_⟩
      simp only [List.set]
      simp only [tYes, if_true]
      repeat walk_at "st"
      have hlen : (signsV (SX.S (abcL.take mq))).length = mq := by
        simp [signsV, abcL]
        omega
      refine ⟨p, c, .str (SX.S (abcL.take mq)), signsV (SX.S (abcL.take mq)), n + 1 + 1 + 1 + 1 + i, rfl, .str (by rw [sx_len]; simp [abcL]; have := sizeLine_eq; omega), (fun z => nomatch z), by omega, by omega, hp9, by omega, fun v H6 hv e10 hp10 => ?_⟩
      obtain ⟨x0, hc, rfl⟩ := List.mem_map.mp hv
      refine ⟨cs.map fun c => .str ⟨#[c]⟩, e10 _ _ hDp h5, by rw [List.length_map]; have := sizeLine_eq; omega, cs ++ [x0], by rw [List.length_append, hl]; rfl, fun x hx => ?_, ?_, (e9.trans e10).new hD, ?_⟩
      · rcases List.mem_append.mp hx with hx | hx
        · exact hcs x hx
        · rw [List.mem_singleton.mp hx]
          exact hc
      · rw [upd_same, List.map_append]
        rfl
      · exact (hp10.upd' hDp hDc).mono (by omega)
    · rintro H5 ⟨cs, hl, hcs, h5, e9, hp9⟩
      have kp2 : Keep p H H5 := (((kp1.trans e6).trans e7).trans e8).trans e9
      have hb4 := (hb3.keep e8 nodd).keep e9 nodd
      refine ⟨SX.S [], D, cs.map fun c => (⟨#[c]⟩ : Str), rfl, rfl, .inl (SqL.of (by rw [h5, List.map_map]; rfl)), ?_, ?_⟩
      · rw [sum_ones, sx_len]
        simp
        omega
      rw [join_signs]
      have hsm2 : cs.length ≤ 9 := by omega
      with_reducible refine w_g5 ?_
      repeat walk_at "st"
      with_reducible refine w_seq ?_
      repeat walk_at "st"
      refine ⟨3 + m, rfl, by omega, by omega, ?_⟩
      rw [← hmq]
      repeat walk_at "st"
      refine w_iteF (by simp) ?_
      repeat walk_at "st"
      refine ⟨rfl, rfl, 3 + m, rfl, by omega, by omega, ?_⟩
      rw [← hmq]
      repeat walk_at "st"
      refine w_iteF (by simp) ?_
      repeat walk_at "st"
      refine ⟨.str (SX.S cs), "str", 3 + m, rfl, by omega, by omega, .str _, by show (SX.S cs).length ≤ 1000000; rw [sx_len]; omega, fun H6 e10 => ?_⟩
      rw [← hmq]
      have w1 : isTextV mq (.str (SX.S cs)) = true := lettersOk_good hcs
      rw [w1]
      repeat walk_at "st"
      refine ⟨by walk_at "len", fun q2 hq2 => ?_⟩
      repeat walk_at "st"
      have hp11 := hp9.same e10
      refine pick_new hq2 hp11 (by omega) (by simp) (by simp) fun bad H7 hv e11 hp12 => ?_
      obtain ⟨bl, rfl, x1, hcb, hca, hbl⟩ : ∃ bl, bad = .str (SX.S bl) ∧ ∃ c, c ∈ bl ∧ c ∉ abcL ∧ bl.length ≤ 10 := by
        simp only [List.mem_cons, List.not_mem_nil, or_false] at hv
        rcases hv with rfl | rfl | rfl | rfl | rfl | rfl | rfl
        · exact ⟨[65], rfl, 65, by decide, by decide, by decide⟩
        · exact ⟨[32], rfl, 32, by decide, by decide, by decide⟩
        · exact ⟨[97, 98, 32, 99], rfl, 32, by decide, by decide, by decide⟩
        · exact ⟨[97, 10], rfl, 10, by decide, by decide, by decide⟩
        · exact ⟨[45], rfl, 45, by decide, by decide, by decide⟩
        · exact ⟨[97, 98, 122, 123], rfl, 123, by decide, by decide, by decide⟩
        · exact ⟨[126], rfl, 126, by decide, by decide, by decide⟩
      have hb5 := (hb4.same e10).keep e11 nodd
      have kp3 := (kp2.same e10).trans e11
      repeat walk_at "st"
      with_reducible refine w_seq ?_
      repeat walk_at "st"
      refine ⟨.str (SX.S bl), "str", 26, rfl, by decide, by decide, .str _, by show (SX.S bl).length ≤ 1000000; rw [sx_len]; omega, fun H8 e12 => ?_⟩
      have w2 : isTextV (26 : Int).toNat (.str (SX.S bl)) = false := lettersOk_bad hcb hca
      rw [w2]
      repeat walk_at "st"
      refine w_addS (addlen (by rw [sx_len]; omega) (by rw [sx_len]; omega)) ?_
      repeat walk_at "st"
      rw [SX.S_cat]
      refine ⟨.str (SX.S (cs ++ bl)), "str", 3 + m, rfl, by omega, by omega, .str _, by show (SX.S (cs ++ bl)).length ≤ 1000000; rw [sx_len, List.length_append]; omega, fun H9 e13 => ?_⟩
      have w3 : isTextV (3 + m).toNat (.str (SX.S (cs ++ bl))) = false := lettersOk_bad (List.mem_append_right _ hcb) hca
      rw [w3]
      repeat walk_at "st"
      refine ⟨rfl, rfl, odd, no, 3 + m, rfl, by omega, by omega, (hb5.same e12).same e13, hsm, fun H10 e14 => ?_⟩
      rw [ht]
      repeat walk_at "st"
      refine ⟨_, "str", 26, rfl, by decide, by decide, .str _, ?_, fun H11 e15 => ?_⟩
      · show Array.size _ ≤ 1000000
        rw [size_rep]
        decide +kernel
      have w4 : isTextV (26 : Int).toNat (.str ⟨(List.replicate (6000 : Int).toNat (("z" : Str)).cps).foldl (· ++ ·) #[]⟩) = true := by
        show lettersOk 26 (Array.toList _) = true
        rw [rep_codes]
        refine lettersOk_good fun c hc => ?_
        rw [List.mem_append] at hc
        rcases hc with hc | hc
        · cases hc
        · obtain ⟨l, hl1, hl2⟩ := List.mem_flatten.mp hc
          rw [List.eq_of_mem_replicate hl1] at hl2
          have : c = 122 := by
            have z : (("z" : Str)).cps.toList = [122] := by decide +kernel
            rw [z] at hl2
            exact List.mem_singleton.mp hl2
          subst this
          decide
      rw [w4]
      repeat walk_at "st"
      refine ⟨.str (SX.S (abcL.take mq)), "str", 3 + m - 1, rfl, by omega, by omega, .str _, by show (SX.S _).length ≤ 1000000; rw [sx_len, List.length_take]; simp [abcL]; omega, fun H12 e16 => ?_⟩
      have w5 : isTextV (3 + m - 1).toNat (.str (SX.S (abcL.take mq))) = false := by
        have e : (3 + m - 1).toNat = mq - 1 := by omega
        rw [e]
        show lettersOk (mq - 1) (abcL.take mq) = false
        clear e
        have : ∀ k : Nat, k < 27 → 3 ≤ k → lettersOk (k - 1) (abcL.take k) = false := by decide
        exact this mq (by omega) hm3
      rw [w5]
      repeat walk_at "st"
      have eS := ((((e12.trans e13).trans e14).trans e15).trans e16)
      exact k _ (kp3.same eS) ((hp12.same eS).mono (by omega))
end

def spLaw (K : PySem.W.Frag) : Sp := fun vs H Q _ => ∃ (a : Addr) (ns : List Int), vs = [.ref a] ∧ SqL K H a (ns.map V.int) ∧ ∀ H', Q (.bl true) H'
theorem law_start {K : PySem.W.Frag} {H : Hp} {a : Addr} {ns : List Int} (hS : SqL K H a (ns.map V.int)) (hl : ns.length ≤ 63) : spLaw K [.ref a] H (fun v _ => v = .bl true) fun _ _ _ => False := ⟨a, ns, rfl, hS, fun _ => rfl⟩
section
variable {P : Program} {w : World} {K : PySem.W.Frag} {mg : Str → Option Value} {base : Heap}
theorem law_ok {f : Addr} {fd : FuncData} (T : Txt K mg) (F : FunD K "law" "law" (defArgs s_law) (defBody s_law) (defScope s_law) [] [] f fd) (c_law_pen : Dn P w K mg base 1 "_law_pen" s_law_pen ["script"] (spPen K)) (c_law_numbers_right : Dn P w K mg base 3 "_law_numbers_right" s_law_numbers_right ["pen"] (spNumsR)) (c_law_kinds_right : Dn P w K mg base 5 "_law_kinds_right" s_law_kinds_right ["pen"] (spKindsR)) : FnOk P w K mg base CX0 6 f fd ["script"] (spLaw K) := by
  refine F.ok sc_law (fun vs H Q E h => ?_) (fun cdv A outer s H vs Q E hr h => ?_)
  · obtain ⟨a, ns, rfl, _⟩ := h
    rfl
  · obtain ⟨a, ns, rfl, hS, k⟩ := h
    refine ⟨_, PSs.nox (pss_cons (ps_set (i := 1) sc_law.nd rfl (Or.inl rfl) (pe_d c_law_pen hr (by decide) rfl (pa_cons (pv 0) pa_nil)))
 (pss_cons (ps_for PassesOwn.never rfl (pi_range1 rfl T.n_range (pa_cons pe_int pa_nil)) (pg_name (i := 2) sc_law.nd rfl (Or.inl rfl))
 (pss_one (ps_if (PW.pt (pw_or (pt_not (pt_val (pe_d c_law_numbers_right hr (by decide) rfl (pa_cons (pv 1) pa_nil)) (by intro _; rfl))) (pw_or1 (pt_not (pt_val (pe_d c_law_kinds_right hr (by decide) rfl (pa_cons (pv 1) pa_nil)) (by intro _; rfl))))))
 (pss_one (ps_ret pe_bl))
 pss_nil)))
 (pss_one (ps_ret pe_bl)))), ?_⟩
    refine w_start (σ := [some (.ref a), none, none]) rfl ?_
    repeat walk_at "st"
    refine ⟨a, ns, rfl, hS, fun p c H1 p0 s1 hp1 => ?_⟩
    repeat walk_at "st"
    with_reducible refine w_seq ?_
    repeat walk_at "st"
    refine L2.for_range (fun i σ' H' => ∃ o, σ' = [some (.ref a), some (.ref p), o] ∧ PenB H' p c (25 * i)) ⟨none, rfl, by simpa using hp1⟩ ?_ ?_
    · rintro i σ' H2 hi ⟨o, rfl, hp2⟩
      have hi12 : i < 12 := hi
      repeat walk_at "st"
      refine ⟨p, c, _, rfl, hp2, by omega, fun H3 e3 hp3 => ?_⟩
      repeat walk_at "st"
      refine ⟨p, c, _, rfl, hp3, by omega, fun H4 e4 hp4 => ?_⟩
      repeat walk_at "st"
      exact ⟨_, rfl, hp4.mono (by omega)⟩
    · rintro σ' H2 ⟨o, rfl, hp2⟩
      repeat walk_at "st"
      exact k _
end

def dd_is_int : He.DefD := ⟨("is_int", none), "is_int", "is_int", defArgs s_is_int, defBody s_is_int, defScope s_is_int, [], []⟩
def dd_number_of : He.DefD := ⟨("number_of", none), "number_of", "number_of", defArgs s_number_of, defBody s_number_of, defScope s_number_of, [], []⟩
def dd_law_pen : He.DefD := ⟨("_law_pen", none), "_law_pen", "_law_pen", defArgs s_law_pen, defBody s_law_pen, defScope s_law_pen, [], []⟩
def dd_law_draw : He.DefD := ⟨("_law_draw", none), "_law_draw", "_law_draw", defArgs s_law_draw, defBody s_law_draw, defScope s_law_draw, [], []⟩
def dd_law_number : He.DefD := ⟨("_law_number", none), "_law_number", "_law_number", defArgs s_law_number, defBody s_law_number, defScope s_law_number, [], []⟩
def dd_is_between : He.DefD := ⟨("is_between", none), "is_between", "is_between", defArgs s_is_between, defBody s_is_between, defScope s_is_between, [], []⟩
def dd_law_pick : He.DefD := ⟨("_law_pick", none), "_law_pick", "_law_pick", defArgs s_law_pick, defBody s_law_pick, defScope s_law_pick, [], []⟩
def dd_need_letters : He.DefD := ⟨("need_letters", none), "need_letters", "need_letters", defArgs s_need_letters, defBody s_need_letters, defScope s_need_letters, [], []⟩
def dd_law_numbers_right : He.DefD := ⟨("_law_numbers_right", none), "_law_numbers_right", "_law_numbers_right", defArgs s_law_numbers_right, defBody s_law_numbers_right, defScope s_law_numbers_right, [], []⟩
def dd_signs_of : He.DefD := ⟨("signs_of", none), "signs_of", "signs_of", defArgs s_signs_of, defBody s_signs_of, defScope s_signs_of, [], []⟩
def dd_is_text : He.DefD := ⟨("is_text", none), "is_text", "is_text", defArgs s_is_text, defBody s_is_text, defScope s_is_text, [], []⟩
def dd_law_kinds_right : He.DefD := ⟨("_law_kinds_right", none), "_law_kinds_right", "_law_kinds_right", defArgs s_law_kinds_right, defBody s_law_kinds_right, defScope s_law_kinds_right, [], []⟩
def dd_law : He.DefD := ⟨("law", none), "law", "law", defArgs s_law, defBody s_law, defScope s_law, [], []⟩
def fnL : List He.DefD := [dd_is_int, dd_number_of, dd_law_pen, dd_law_draw, dd_law_number, dd_is_between, dd_law_pick, dd_need_letters, dd_law_numbers_right, dd_signs_of, dd_is_text, dd_law_kinds_right, dd_law]
def faL : List He.Fa := [.glo "is_int", .glo "number_of", .glo "_law_pen", .glo "_law_draw", .glo "_law_number", .glo "is_between", .glo "_law_pick", .glo "need_letters", .glo "_law_numbers_right", .glo "signs_of", .glo "is_text", .glo "_law_kinds_right", .glo "law", .free "abs", .free "all", .free "bool", .free "int", .free "isinstance", .free "len", .free "list", .free "range", .free "str", .int "LEAST_LETTERS" (2), .int "MOST_FIGURES" (60), .int "MOST_LETTERS" (26), .str "SIGNS" "abcdefghijklmnopqrstuvwxyz"]
abbrev RR : PySem.W.OpenRow := PySem.W.OpenLaw.row PySem.Challenge.rw_learntbooks_k02_values_looked_at
abbrev hk : PySem.W.Hook := He.hookD 4 faL fnL
def ob (s : PySem.W.SharedT) : He.AlD := He.obsDG 4 faL fnL (HandSHeadRun.getT s)
theorem ob_eq (s : PySem.W.SharedT) : ob s = hk.obs s.abs := He.obsDG_eq (HandSHeadRun.getT_eq s)
def loose : List PySem.Str := (["LearnError", "BadInput", "BadLetters", "SIGNS", "LEAST_LETTERS", "MOST_LETTERS", "MOST_FIGURES", "is_int", "is_between", "need_letters", "signs_of", "is_text", "number_of", "_law_pen", "_law_draw", "_law_pick", "_law_number", "_law_numbers_right", "_law_kinds_right"] : List PySem.Str)
theorem run (w : World) : HandSHeadRun.RunEq RR (PySem.W.view RR.prog [22]) hk ob 40000 loose w := by
  intro os
  kernel_rfl
theorem facts {P : Program} {w : World} {K : PySem.W.Frag} {h : Heap} {mg : Str → Option Value} {f : Addr} (X : K.In h) (G : h.Ns mainGlobals mg) (hfa : mg ("law" : Str) = some (.ref f)) (c : He.SaysD faL fnL K) :
    ∃ fd : FuncData, (∀ (s : Shared) (v : Value), BindsTo s fd ⟨[v], []⟩ [("script", v)]) ∧ ∀ base : Heap, K.In base → base.Ns mainGlobals mg → FnOk P w K mg base CX0 6 f fd ["script"] (spLaw K) := by
  have T : Txt K mg := ⟨He.free_ok X G (c.fact 13), He.free_ok X G (c.fact 14), He.free_ok X G (c.fact 15), He.free_ok X G (c.fact 16), He.free_ok X G (c.fact 17), He.free_ok X G (c.fact 18), He.free_ok X G (c.fact 19), He.free_ok X G (c.fact 20), He.free_ok X G (c.fact 21), glob_i (He.int_ok X G (c.fact 22)), glob_i (He.int_ok X G (c.fact 23)), glob_i (He.int_ok X G (c.fact 24)), glob_s (He.str_ok X G (c.fact 25))⟩
  have F_is_int : FD K mg "is_int" s_is_int := fd_of (c.def_ 0 (d := dd_is_int) rfl) (He.glo_ok X G (c.fact 0))
  have F_number_of : FD K mg "number_of" s_number_of := fd_of (c.def_ 1 (d := dd_number_of) rfl) (He.glo_ok X G (c.fact 1))
  have F_law_pen : FD K mg "_law_pen" s_law_pen := fd_of (c.def_ 2 (d := dd_law_pen) rfl) (He.glo_ok X G (c.fact 2))
  have F_law_draw : FD K mg "_law_draw" s_law_draw := fd_of (c.def_ 3 (d := dd_law_draw) rfl) (He.glo_ok X G (c.fact 3))
  have F_law_number : FD K mg "_law_number" s_law_number := fd_of (c.def_ 4 (d := dd_law_number) rfl) (He.glo_ok X G (c.fact 4))
  have F_is_between : FD K mg "is_between" s_is_between := fd_of (c.def_ 5 (d := dd_is_between) rfl) (He.glo_ok X G (c.fact 5))
  have F_law_pick : FD K mg "_law_pick" s_law_pick := fd_of (c.def_ 6 (d := dd_law_pick) rfl) (He.glo_ok X G (c.fact 6))
  have F_need_letters : FD K mg "need_letters" s_need_letters := fd_of (c.def_ 7 (d := dd_need_letters) rfl) (He.glo_ok X G (c.fact 7))
  have F_law_numbers_right : FD K mg "_law_numbers_right" s_law_numbers_right := fd_of (c.def_ 8 (d := dd_law_numbers_right) rfl) (He.glo_ok X G (c.fact 8))
  have F_signs_of : FD K mg "signs_of" s_signs_of := fd_of (c.def_ 9 (d := dd_signs_of) rfl) (He.glo_ok X G (c.fact 9))
  have F_is_text : FD K mg "is_text" s_is_text := fd_of (c.def_ 10 (d := dd_is_text) rfl) (He.glo_ok X G (c.fact 10))
  have F_law_kinds_right : FD K mg "_law_kinds_right" s_law_kinds_right := fd_of (c.def_ 11 (d := dd_law_kinds_right) rfl) (He.glo_ok X G (c.fact 11))
  obtain ⟨fd, F⟩ := c.def_ 12 (d := dd_law) rfl
  have e := hfa.symm.trans (He.glo_ok X G (c.fact 12 (f := .glo "law") rfl))
  cases e
  have b := FunD.bindsA (ps := ["script"]) F fun _ _ _ _ _ _ us hl => match us, hl with | [_], _ => rfl
  refine ⟨fd, fun s v => b s [v] rfl, fun base _ _ => ?_⟩
  have c_is_int : Dn P w K mg base 1 "is_int" s_is_int ["value"] (spIsInt) := d_is_int T F_is_int
  have c_number_of : Dn P w K mg base 1 "number_of" s_number_of ["word", "least", "most"] (spNumOf) := d_number_of T F_number_of
  have c_law_pen : Dn P w K mg base 1 "_law_pen" s_law_pen ["script"] (spPen K) := d_law_pen T F_law_pen
  have c_law_draw : Dn P w K mg base 1 "_law_draw" s_law_draw ["pen", "many"] (spDraw) := d_law_draw T F_law_draw
  have c_law_number : Dn P w K mg base 1 "_law_number" s_law_number ["word"] (spLawNum) := d_law_number T F_law_number
  have c_is_between : Dn P w K mg base 2 "is_between" s_is_between ["value", "least", "most"] (spBetween) := d_is_between T F_is_between c_is_int
  have c_law_pick : Dn P w K mg base 2 "_law_pick" s_law_pick ["pen", "some"] (spPick K) := d_law_pick T F_law_pick c_law_draw
  have c_need_letters : Dn P w K mg base 3 "need_letters" s_need_letters ["value"] (spNeedL) := d_need_letters T F_need_letters c_is_between
  have c_law_numbers_right : Dn P w K mg base 3 "_law_numbers_right" s_law_numbers_right ["pen"] (spNumsR) := d_law_numbers_right T F_law_numbers_right c_law_pick c_law_draw c_law_number c_number_of
  have c_signs_of : Dn P w K mg base 4 "signs_of" s_signs_of ["letters"] (spSigns) := d_signs_of T F_signs_of c_need_letters
  have c_is_text : Dn P w K mg base 4 "is_text" s_is_text ["value", "letters"] (spIsText) := d_is_text T F_is_text c_need_letters
  have c_law_kinds_right : Dn P w K mg base 5 "_law_kinds_right" s_law_kinds_right ["pen"] (spKindsR) := d_law_kinds_right T F_law_kinds_right c_law_pick c_law_draw c_is_int c_is_between c_is_text c_signs_of
  exact law_ok T F c_law_pen c_law_numbers_right c_law_kinds_right
end LB
open PySem PySem.W PySem.Calls PyProof.Rows
set_option maxHeartbeats 0 in
theorem PySem.Challenge.cw_learntbooks_k02_values_looked_at_holds : PySem.Challenge.rw_learntbooks_k02_values_looked_at.Holds := by
  w_on; o_law
  refine HandSHeadRun.head_any (r := OpenLaw.row PySem.Challenge.rw_learntbooks_k02_values_looked_at) (q := view (OpenLaw.row PySem.Challenge.rw_learntbooks_k02_values_looked_at).prog [22]) (H := LB.hk) (ob := LB.ob) (M := 40000) (loose := LB.loose) (d := HandSHeadRun.topDef (OpenLaw.row PySem.Challenge.rw_learntbooks_k02_values_looked_at).prog 22) (kwd := []) LB.ob_eq
    (by kernel_rfl) (fun s => by kernel_rfl) LB.run (by kernel_rfl) (by kernel_rfl) (by kernel_rfl) (by rfl) (by first | assumption | decide +kernel) (by decide +kernel) ⟨rfl, rfl, rfl, rfl, rfl, by decide +kernel⟩ ?hw ?hc
  case hw => w_witness2
  case hc =>
    refine L2.walk_ofE (l := PySem.Challenge.rw_learntbooks_k02_values_looked_at) (n := 63) (k := 6) (x := "script") (CX := L2.CX0) rfl (by decide) (by kernel_rfl) ⟨rfl, by decide, by decide⟩ ?F (fun _ _ _ _ z => z)
    intro w mg fa h Y G hmg0
    obtain ⟨K, KX, c⟩ := Y
    have hmg : mg ("law" : PySem.Str) = some (.ref fa) := by
      have e : (HandSHeadRun.topDef (OpenLaw.row PySem.Challenge.rw_learntbooks_k02_values_looked_at).prog 22).name = ("law" : PySem.Str) := by kernel_rfl
      rw [← e]
      exact hmg0
    obtain ⟨fd, hb, hF⟩ := LB.facts (P := (PySem.Challenge.rw_learntbooks_k02_values_looked_at).prog) (w := w) KX G hmg c
    exact ⟨K, fd, LB.spLaw K, KX, hb, fun H a ns hl _ hS => LB.law_start hS hl, hF⟩
#print axioms PySem.Challenge.cw_learntbooks_k02_values_looked_at_holds

