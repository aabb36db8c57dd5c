import PyProof.Rows.All
import Wide.All
import OpenK.AllK
import Wide.FinOn
import HandS.ForMost
import HandS.Exc
import HandS.ExcOwn
import HandS.Wide
import HandS.WideMore
import HandS.IsInst
import HandS.TupLe
import HandS.Defaults
import HandS.HeadEnd
import HandS.HeadHook1
import HandS.HeadHook2
import HandS.HeadHook3
import HandS.Head0
import HandS.Head1
import HandS.Head2
import HandS.More
import HandS.Codes
import HandS.Flow
import HandS.TupAny
import HandS.Property
import HandS.DictComp
import HandS.Conv
import HandS.ClsMeth
import HandS.FStr
import KE.KCallOwn
import HandS.GenList
import HandS.GenYield
import HandS.HeadHook4
import HandS.SortInts
import HandS.SetFor
import KE.GoesEnum
import HandS.HeadNt
import OpenK.KMeth
import KE.KOpsOwn
import HandS.Star
import HandS.Iter
import HandS.Style
import HandS.Zip
import HandS.MakeKw
import KE.KTupSum
import PySem.Challenge.RW_learntbooks_k56_whole_great_lengths
set_option Elab.async false
set_option linter.all false
set_option maxRecDepth 100000
set_option maxHeartbeats 4000000

namespace LB
open PySem PySem.Spec PyProof.Rows L2

/-! ## stepping lemmas: a reading's head is unfolded, what follows stays closed -/
section
variable {K : PySem.W.Frag} {D : Ends} {σ : L2.St} {H : Hp} {Q : VK} {ta tb tc te : TE} {tA tB' : TT} {t u : TS} {i : Nat} {v x y : V} {r : R2}

theorem w_seq (q : t { D with nx := u D } σ H) : tSeq t u D σ H := q
theorem w_seqA {g : TG} (q : tAsg te g { D with nx := u D } σ H) : tSeq (tAsg te g) u D σ H := q
theorem w_seqE (q : tDrop te { D with nx := u D } σ H) : tSeq (tDrop te) u D σ H := q
theorem w_seqG {ti : TIp} (q : tAug i te ti { D with nx := u D } σ H) : tSeq (tAug i te ti) u D σ H := q
theorem w_seqP {j : Nat} {ts : TA} (q : tPar i j ts { D with nx := u D } σ H) : tSeq (tPar i j ts) u D σ H := q
/-- the ways of t meet in Mid -/
theorem w_join (Mid : L2.St → Hp → Prop) (h : ∀ X : L2.St → Hp → Prop, (∀ σ' H', Mid σ' H' → X σ' H') → t { D with nx := X } σ H) (hX : ∀ σ' H', Mid σ' H' → u D σ' H') : tSeq t u D σ H := h (u D) hX
theorem w_two {P : V → V → Prop} (q : P x y) : ∃ v w, [x, y] = [v, w] ∧ P v w := ⟨x, y, rfl, q⟩
/-- the ways of an expression meet in Mid -/
theorem w_val (Mid : V → Hp → Prop) (h : ∀ X : VK, (∀ v H', Mid v H' → X v H') → te σ H X) (hQ : ∀ v H', Mid v H' → Q v H') : te σ H Q := h Q hQ
theorem w_par {j : Nat} {ts : TA} (q : ts σ H fun vs H1 => ∃ v w, vs = [v, w] ∧ gName i v σ H1 fun σ1 H2 => gName j w σ1 H2 D.nx) : tPar i j ts D σ H := q
theorem w_nx {f bk ct : L2.St → Hp → Prop} {rt : VK} (q : f σ H) : (Ends.mk f rt bk ct).nx σ H := q
theorem w_bk {f bk ct : L2.St → Hp → Prop} {rt : VK} (q : bk σ H) : (Ends.mk f rt bk ct).bk σ H := q
theorem w_ct {f bk ct : L2.St → Hp → Prop} {rt : VK} (q : ct σ H) : (Ends.mk f rt bk ct).ct σ H := q
theorem w_rt {f bk ct : L2.St → Hp → Prop} {rt : VK} (q : rt v H) : (Ends.mk f rt bk ct).rt v H := q
theorem w_next (q : D.nx σ H) : tNext D σ H := q
theorem w_brk (q : D.bk σ H) : tBreak D σ H := q
theorem w_cont (q : D.ct σ H) : tCont D σ H := q
theorem w_drop (q : te σ H fun _ H1 => D.nx σ H1) : tDrop te D σ H := q
theorem w_ret (q : te σ H D.rt) : tRet te D σ H := q
theorem w_retN (q : D.rt .non H) : tRetN D σ H := q
theorem w_asg {g : TG} (q : te σ H fun x H1 => g x σ H1 D.nx) : tAsg te g D σ H := q
theorem w_ifS (q : tA σ H fun b H1 => if b = true then t D σ H1 else u D σ H1) : tIfS tA t u D σ H := q
theorem w_aug {ti : TIp} (h : σ[i]? = some (some x)) (q : te σ H fun y H1 => ti x y H1 fun z H2 => D.nx (σ.set i (some z)) H2) : tAug i te ti D σ H := ⟨x, h, q⟩
theorem w_var (h : σ[i]? = some (some v)) (q : Q v H) : tVar i σ H Q := ⟨v, h, q⟩
theorem w_c (q : Q v H) : tC v σ H Q := q
theorem w_op (q : ta σ H fun x H1 => tb σ H1 fun y H2 => r x y H2 Q) : tOp r ta tb σ H Q := q
theorem w_un {r : V → Hp → VK → Prop} (q : ta σ H fun x H1 => r x H1 Q) : tUn r ta σ H Q := q
theorem w_if (q : tA σ H fun c H1 => if c = true then ta σ H1 Q else tb σ H1 Q) : tIf tA ta tb σ H Q := q
theorem w_andV (q : ta σ H fun x H1 => ∃ c, x = .bl c ∧ if c = true then tb σ H1 Q else Q (.bl false) H1) : tAndV ta tb σ H Q := q
theorem w_orV (q : ta σ H fun x H1 => ∃ c, x = .bl c ∧ if c = true then Q (.bl true) H1 else tb σ H1 Q) : tOrV ta tb σ H Q := q
theorem w_notV (q : ta σ H fun x H1 => ∃ c, x = .bl c ∧ Q (.bl (!c)) H1) : tNotV ta σ H Q := q
theorem w_bl {c : Bool} {P : Bool → Prop} (q : P c) : ∃ b, V.bl c = .bl b ∧ P b := ⟨c, rfl, q⟩
theorem w_test {R : Bool → Hp → Prop} (q : te σ H fun x H' => ∃ k, x = .bl k ∧ R k H') : tTest te σ H R := q
theorem w_B {R : Bool → Hp → Prop} (q : te σ H fun x H1 => ∃ c, x = .bl c ∧ R c H1) : tB te σ H R := q
theorem w_and {R : Bool → Hp → Prop} (q : tA σ H fun c H1 => if c = true then tB' σ H1 R else R false H1) : tAnd tA tB' σ H R := q
theorem w_or {R : Bool → Hp → Prop} (q : tA σ H fun c H1 => if c = true then R true H1 else tB' σ H1 R) : tOr tA tB' σ H R := q
theorem w_not {R : Bool → Hp → Prop} (q : tA σ H fun c H1 => R (!c) H1) : tNot tA σ H R := q
theorem w_chain {r' : R2} (q : ta σ H fun x H1 => tb σ H1 fun y H2 => r x y H2 fun z H3 => ∃ k, z = .bl k ∧ (if k = true then tc σ H3 fun w' H4 => r' y w' H4 Q else Q (.bl false) H3)) : tChain r r' ta tb tc σ H Q := q
theorem w_nil {R : List V → Hp → Prop} (q : R [] H) : tNil σ H R := q
theorem w_cons {ts : TA} {R : List V → Hp → Prop} (q : ta σ H fun x H1 => ts σ H1 fun xs H2 => R (x :: xs) H2) : tCons ta ts σ H R := q
theorem w_lst {ts : TA} (q : ts σ H fun xs H1 => xs.length ≤ sizeLine ∧ ∀ p, H1 p = none → Q (.ref p) (upd H1 p (.lst xs))) : tLst ts σ H Q := q
theorem w_tup {ts : TA} (q : ts σ H fun xs H1 => xs.length ≤ sizeLine ∧ ∀ p, H1 p = none → Q (.ref p) (upd H1 p (.tup xs))) : tTup ts σ H Q := q
theorem w_call {sp : Sp} {dvs : List V} {E : XK} {ts : TA} (q : ts σ H fun vs H1 => sp (vs ++ dvs) H1 Q E) : tCall sp dvs E ts σ H Q := q
theorem w_callN {n m : Nat} {sp : Sp} {gV : List V → List V → List V} {E : XK} {ts tk : TA} (q : ts σ H fun vs H1 => tk σ H1 fun zs H2 => vs.length = n ∧ zs.length = m ∧ sp (gV vs zs) H2 Q E) : tCallN n m sp gV E ts tk σ H Q := q
theorem w_cb {r : List V → Hp → VK → Prop} {ts : TA} (q : ts σ H fun vs H1 => r vs H1 Q) : tCB r ts σ H Q := q
theorem w_I0 {g : Int → Int → V} {a b : Int} (q : Q (g a b) H) : rI0 g (.int a) (.int b) H Q := ⟨a, b, rfl, rfl, q⟩
theorem w_I {C : Int → Int → Prop} {g : Int → Int → V} {a b : Int} (c : C a b) (q : Q (g a b) H) : rI C g (.int a) (.int b) H Q := ⟨a, b, rfl, rfl, c, q⟩
theorem w_U {g : Int → V} {a : Int} (q : Q (g a) H) : rU g (.int a) H Q := ⟨a, rfl, q⟩
theorem w_eq (s : scal x y = true) (q : Q (.bl (decide (x = y))) H) : rEq x y H Q := ⟨s, q⟩
theorem w_ne (s : scal x y = true) (q : Q (.bl (!decide (x = y))) H) : rNe x y H Q := ⟨s, q⟩
theorem w_sl {r : V → Option Int → Option Int → Hp → VK → Prop} {tl th : TO} (q : te σ H fun x H1 => tl σ H1 fun l H2 => th σ H2 fun u H3 => r x l u H3 Q) : tSl r te tl th σ H Q := q
theorem w_noPart {R : Option Int → Hp → Prop} (q : R none H) : tNoPart σ H R := q
theorem w_part {R : Option Int → Hp → Prop} (q : te σ H fun x H1 => ∃ i, x = .int i ∧ R (some i) H1) : tPart te σ H R := q
theorem w_int {a : Int} {P : Int → Prop} (q : P a) : ∃ i, V.int a = .int i ∧ P i := ⟨a, rfl, q⟩
variable {a0 a1 a2 a3 a4 a5 a6 a7 a8 a9 b0 b1 b2 b3 : Option V} {rs : L2.St} {R : L2.St → Hp → Prop}
theorem w_v0 (q : Q v H) : tVar 0 (some v :: rs) H Q := ⟨v, rfl, q⟩
theorem w_v1 (q : Q v H) : tVar 1 (a0 :: some v :: rs) H Q := ⟨v, rfl, q⟩
theorem w_v2 (q : Q v H) : tVar 2 (a0 :: a1 :: some v :: rs) H Q := ⟨v, rfl, q⟩
theorem w_v3 (q : Q v H) : tVar 3 (a0 :: a1 :: a2 :: some v :: rs) H Q := ⟨v, rfl, q⟩
theorem w_v4 (q : Q v H) : tVar 4 (a0 :: a1 :: a2 :: a3 :: some v :: rs) H Q := ⟨v, rfl, q⟩
theorem w_v5 (q : Q v H) : tVar 5 (a0 :: a1 :: a2 :: a3 :: a4 :: some v :: rs) H Q := ⟨v, rfl, q⟩
theorem w_v6 (q : Q v H) : tVar 6 (a0 :: a1 :: a2 :: a3 :: a4 :: a5 :: some v :: rs) H Q := ⟨v, rfl, q⟩
theorem w_v7 (q : Q v H) : tVar 7 (a0 :: a1 :: a2 :: a3 :: a4 :: a5 :: a6 :: some v :: rs) H Q := ⟨v, rfl, q⟩
theorem w_v8 (q : Q v H) : tVar 8 (a0 :: a1 :: a2 :: a3 :: a4 :: a5 :: a6 :: a7 :: some v :: rs) H Q := ⟨v, rfl, q⟩
theorem w_v9 (q : Q v H) : tVar 9 (a0 :: a1 :: a2 :: a3 :: a4 :: a5 :: a6 :: a7 :: a8 :: some v :: rs) H Q := ⟨v, rfl, q⟩
theorem w_v10 (q : Q v H) : tVar 10 (a0 :: a1 :: a2 :: a3 :: a4 :: a5 :: a6 :: a7 :: a8 :: a9 :: some v :: rs) H Q := ⟨v, rfl, q⟩
theorem w_v11 (q : Q v H) : tVar 11 (a0 :: a1 :: a2 :: a3 :: a4 :: a5 :: a6 :: a7 :: a8 :: a9 :: b0 :: some v :: rs) H Q := ⟨v, rfl, q⟩
theorem w_v12 (q : Q v H) : tVar 12 (a0 :: a1 :: a2 :: a3 :: a4 :: a5 :: a6 :: a7 :: a8 :: a9 :: b0 :: b1 :: some v :: rs) H Q := ⟨v, rfl, q⟩
theorem w_g0 (q : R (some v :: rs) H) : gName 0 v (a0 :: rs) H R := q
theorem w_g1 (q : R (a0 :: some v :: rs) H) : gName 1 v (a0 :: a1 :: rs) H R := q
theorem w_g2 (q : R (a0 :: a1 :: some v :: rs) H) : gName 2 v (a0 :: a1 :: a2 :: rs) H R := q
theorem w_g3 (q : R (a0 :: a1 :: a2 :: some v :: rs) H) : gName 3 v (a0 :: a1 :: a2 :: a3 :: rs) H R := q
theorem w_g4 (q : R (a0 :: a1 :: a2 :: a3 :: some v :: rs) H) : gName 4 v (a0 :: a1 :: a2 :: a3 :: a4 :: rs) H R := q
theorem w_g5 (q : R (a0 :: a1 :: a2 :: a3 :: a4 :: some v :: rs) H) : gName 5 v (a0 :: a1 :: a2 :: a3 :: a4 :: a5 :: rs) H R := q
theorem w_g6 (q : R (a0 :: a1 :: a2 :: a3 :: a4 :: a5 :: some v :: rs) H) : gName 6 v (a0 :: a1 :: a2 :: a3 :: a4 :: a5 :: a6 :: rs) H R := q
theorem w_g7 (q : R (a0 :: a1 :: a2 :: a3 :: a4 :: a5 :: a6 :: some v :: rs) H) : gName 7 v (a0 :: a1 :: a2 :: a3 :: a4 :: a5 :: a6 :: a7 :: rs) H R := q
theorem w_g8 (q : R (a0 :: a1 :: a2 :: a3 :: a4 :: a5 :: a6 :: a7 :: some v :: rs) H) : gName 8 v (a0 :: a1 :: a2 :: a3 :: a4 :: a5 :: a6 :: a7 :: a8 :: rs) H R := q
theorem w_g9 (q : R (a0 :: a1 :: a2 :: a3 :: a4 :: a5 :: a6 :: a7 :: a8 :: some v :: rs) H) : gName 9 v (a0 :: a1 :: a2 :: a3 :: a4 :: a5 :: a6 :: a7 :: a8 :: a9 :: rs) H R := q
theorem w_g10 (q : R (a0 :: a1 :: a2 :: a3 :: a4 :: a5 :: a6 :: a7 :: a8 :: a9 :: some v :: rs) H) : gName 10 v (a0 :: a1 :: a2 :: a3 :: a4 :: a5 :: a6 :: a7 :: a8 :: a9 :: b0 :: rs) H R := q
theorem w_g11 (q : R (a0 :: a1 :: a2 :: a3 :: a4 :: a5 :: a6 :: a7 :: a8 :: a9 :: b0 :: some v :: rs) H) : gName 11 v (a0 :: a1 :: a2 :: a3 :: a4 :: a5 :: a6 :: a7 :: a8 :: a9 :: b0 :: b1 :: rs) H R := q
theorem w_g12 (q : R (a0 :: a1 :: a2 :: a3 :: a4 :: a5 :: a6 :: a7 :: a8 :: a9 :: b0 :: b1 :: some v :: rs) H) : gName 12 v (a0 :: a1 :: a2 :: a3 :: a4 :: a5 :: a6 :: a7 :: a8 :: a9 :: b0 :: b1 :: b2 :: rs) H R := q
end

/-! ## calls: one record a def -/
section
variable (P : Program) (w : World) (K : PySem.W.Frag) (mg : Str → Option Value) (base : Heap)
/-- a def of the text, its promise, how it is bound by place -/
structure Dn (k : Nat) (x : Str) (st : Stmt) (ps : List Str) (sp : Sp) : Prop where
  ex : ∃ (f : Addr) (fd : FuncData), FunD K x x (defArgs st) (defBody st) (defScope st) [] [] f fd ∧ FnOk P w K mg base CX0 k f fd ps sp ∧ mg x = some (.ref f) ∧ Binds K fd ps []
end
/-- the items with these indexes -/
def sel {α : Type} (ix : List Nat) (xs : List α) : List α := ix.filterMap fun i => xs[i]?
theorem sel_rel {xs : List V} {us : List Value} (r : Vals xs us) : ∀ ix : List Nat, Vals (sel ix xs) (sel ix us)
  | [] => .nil
  | i :: ix => by
    have t := sel_rel r ix
    unfold sel at t ⊢
    rw [List.filterMap_cons, List.filterMap_cons]
    cases h : xs[i]? with
    | none =>
      rw [r.none_of h]
      exact t
    | some x =>
      obtain ⟨u, h1, h2⟩ := r.get h
      rw [h1]
      exact .cons h2 t
section
variable {P : Program} {w : World} {K : PySem.W.Frag} {mg : Str → Option Value} {base : Heap} {x : Str} {st : Stmt} {ps ks : List Str} {sp : Sp} {k n : Nat} {f : Addr} {fd : FuncData} {dvs : List V} {kws : List (Str × V)}
/-- keywords: ix puts the written values in the parameters' order -/
structure KwOk (st : Stmt) (x : Str) (ps : List Str) (n : Nat) (ks : List Str) (ix : List Nat) : Prop where
  h : ∀ (kV doc pm : Value) (an : Option Addr) (cdv ct : Value) (us ws : List Value), us.length = n → ws.length = ks.length →
    bindArgs (PySem.W.fnOf x x (defArgs st) (defBody st) (defScope st) .none kV doc pm an cdv ct) ⟨us, ks.zip ws⟩ = pure (ps.zip (sel ix (us ++ ws)))
theorem kbn_of {ix : List Nat} (F : FunD K x x (defArgs st) (defBody st) (defScope st) [] [] f fd) (o : KwOk st x ps n ks ix) : KBn K fd ps n ks (fun us ws => sel ix (us ++ ws)) (fun vs zs => sel ix (vs ++ zs)) := by
  obtain ⟨oc, od, dV, kV, doc, pm, an, cdv, ct, osl, rfl, lk, hcd, hD, hK⟩ := F.ex
  rcases hD with ⟨_, rfl⟩ | ⟨e, _⟩
  · exact ⟨fun s us ws _ l1 l2 => .of_eq (o.h kV doc pm an cdv ct us ws l1 l2), fun r1 r2 => sel_rel (r1.append r2) ix⟩
  · exact absurd rfl e
end
section
variable {X : Cx} {k j n : Nat} {x : Str} {st : Stmt} {ps ks : List Str} {sp : Sp} {p pos : Pos} {e : Expr} {es : List Expr} {kws : List Keyword} {t tk : TA} {ix : List Nat}
theorem pe_d (c : Dn X.prog X.w X.K X.mg X.base k x st ps sp) (hr : Room j X.A) (hk : k ≤ j) (hg : Gl X x) (ha : PA X (e :: es) t)
    (hdb : (x == ("__debug__" : Str)) = false := by decide) (he : starEach (e :: es) X.env = (false, eval e X.env) :: starEach es X.env := by rfl) (hpl : (backTo pos (starEach es X.env)).any (·.1) = false := by rfl) :
    PE X (.Call (.Name x p) (e :: es) [] pos) (tCall sp [] E0 t) := by
  obtain ⟨f, fd, F, ok, hm, b⟩ := c.ex
  exact pe_call ok (hr.mono hk) hg hm F.kp b .nil pass0 ha hdb he hpl
theorem pe_d0 (c : Dn X.prog X.w X.K X.mg X.base k x st ps sp) (hr : Room j X.A) (hk : k ≤ j) (hg : Gl X x)
    (hdb : (x == ("__debug__" : Str)) = false := by decide) : PE X (.Call (.Name x p) [] [] pos) (tCall sp [] E0 tNil) := by
  obtain ⟨f, fd, F, ok, hm, b⟩ := c.ex
  exact pe_call0 ok (hr.mono hk) hg hm F.kp b .nil pass0 hdb
theorem pe_dN (c : Dn X.prog X.w X.K X.mg X.base k x st ps sp) (hr : Room j X.A) (hk : k ≤ j) (hg : Gl X x) (o : KwOk st x ps n ks ix) (ha : PA X (e :: es) t) (hkw : PK X kws tk)
    (hall : (backToKw pos (keywordEach kws X.env)).all (·.1.isSome) = true := by rfl) (hks : (backToKw pos (keywordEach kws X.env)).filterMap (·.1) = ks := by rfl)
    (hdb : (x == ("__debug__" : Str)) = false := by decide) (he : starEach (e :: es) X.env = (false, eval e X.env) :: starEach es X.env := by rfl)
    (hpl : ((backTo pos (starEach (e :: es) X.env)).any (·.1) || (backToKw pos (keywordEach kws X.env)).any (·.1.isNone)) = false := by rfl) :
    PE X (.Call (.Name x p) (e :: es) kws pos) (tCallN n ks.length sp (fun vs zs => sel ix (vs ++ zs)) E0 t tk) := by
  obtain ⟨f, fd, F, ok, hm, b⟩ := c.ex
  exact pe_callN ok (hr.mono hk) hg hm F.kp (kbn_of F o) pass0 ha hkw hall hks hdb he hpl
/-- f(k = v, ..): keywords alone -/
theorem pe_dN0 (c : Dn X.prog X.w X.K X.mg X.base k x st ps sp) (hr : Room j X.A) (hk : k ≤ j) (hg : Gl X x) (o : KwOk st x ps 0 ks ix) (hkw : PK X kws tk)
    (hall : (backToKw pos (keywordEach kws X.env)).all (·.1.isSome) = true := by rfl) (hks : (backToKw pos (keywordEach kws X.env)).filterMap (·.1) = ks := by rfl)
    (hdb : (x == ("__debug__" : Str)) = false := by decide)
    (hpl : ((backTo pos (starEach [] X.env)).any (·.1) || (backToKw pos (keywordEach kws X.env)).any (·.1.isNone)) = false := by rfl) :
    PE X (.Call (.Name x p) [] kws pos) (tCallN 0 ks.length sp (fun vs zs => sel ix (vs ++ zs)) E0 tNil tk) := by
  obtain ⟨f, fd, F, ok, hm, b⟩ := c.ex
  refine ⟨fun pins s σ H Q I h => ?_⟩
  refine wpAny_Call_Name_kw (ld_glob I hg hm ?_ hdb)
  refine PySem.W.callWith_KW0 (h₀ := X.base) I.ok.mod.kin F.kp hall ?_ hpl
  obtain h : tk σ H fun zs H2 => ([] : List V).length = 0 ∧ zs.length = ks.length ∧ sp (sel ix ([] ++ zs)) H2 Q E0 := h
  refine thn (hkw.run pos pins s σ H _ I h) fun ws s2 ⟨zs, H2, I2, rz, l1, l2, q2⟩ => ⟨I2.kIn, ?_⟩
  rw [hks]
  exact run_fnN ok (hr.mono hk) (kbn_of F o) pass0 I2 .nil rz l1 l2 q2
end

section
variable {P : Program} {w : World} {K : PySem.W.Frag} {mg : Str → Option Value} {base : Heap} {x : Str} {st : Stmt} {ps N : List Str} {sp : Sp} {k : Nat}
/-- a def of the text as it stands behind the top -/
def FD (K : PySem.W.Frag) (mg : Str → Option Value) (x : Str) (st : Stmt) : Prop := ∃ (f : Addr) (fd : FuncData), FunD K x x (defArgs st) (defBody st) (defScope st) [] [] f fd ∧ mg x = some (.ref f)
theorem fd_of {f : Addr} (h : ∃ fd, FunD K x x (defArgs st) (defBody st) (defScope st) [] [] f fd) (g : mg x = some (.ref f)) : FD K mg x st :=
  let ⟨fd, F⟩ := h
  ⟨f, fd, F, g⟩
theorem glob_of {v : V} {α : Type} {q : α → Value} (h : ∃ t, mg x = some (q t)) (r : ∀ t, RelV v (q t)) : ∃ u, mg x = some u ∧ RelV v u :=
  let ⟨t, e⟩ := h
  ⟨_, e, r t⟩
theorem glob_i {i : Int} (h : ∃ t, mg x = some (.int i t)) : ∃ u, mg x = some u ∧ RelV (.int i) u := glob_of h fun t => ⟨t, rfl⟩
theorem glob_s {z : Str} (h : ∃ t, mg x = some (.str z t)) : ∃ u, mg x = some u ∧ RelV (.str z) u := glob_of h fun t => ⟨t, rfl⟩
/-- THE RULE for a def -/
theorem dn_of (F : FD K mg x st) (hbind : ∀ (kV doc pm : Value) (an : Option Addr) (cdv ct : Value) (us : List Value), us.length = ps.length → bindArgs (PySem.W.fnOf x x (defArgs st) (defBody st) (defScope st) .none kV doc pm an cdv ct) ⟨us, []⟩ = pure (ps.zip us))
    (S : FnScope N ps (defScope st)) (len : ∀ vs H Q E, sp vs H Q E → vs.length = ps.length)
    (hbody : ∀ (f : Addr) (cdv : Value) (A : Around) (outer : List Env) (s : Shared) (H : Hp) (vs : List V) (Q : VK) (E : XK), Room k (A.deeper (envOfC x (defScope st) s.heap.objs.size f cdv)) → sp vs H Q E →
      ∃ t, PSs (cxOf CX0 P w K mg base N x (defScope st) f cdv A outer s H E) (defBody st) t ∧ t { nx := fun _ H' => Q .non H', rt := Q } (start N vs) H) : Dn P w K mg base (k + 1) x st ps sp := by
  obtain ⟨f, fd, F, g⟩ := F
  exact ⟨f, fd, F, F.ok S len fun cdv A outer s H vs Q E hr h => hbody f cdv A outer s H vs Q E hr h, g, F.bindsN hbind⟩
end

/-- a module's constant -/
theorem pe_gv {X : Cx} {x : Str} {v : V} {pos : Pos} (hg : Gl X x) (h : ∃ u, X.mg x = some u ∧ RelV v u) (hd : (x == ("__debug__" : Str)) = false := by decide) : PE X (.Name x pos) (tC v) :=
  let ⟨_, hm, r⟩ := h
  pe_glob hg hm r hd
/-! ## operators that the layer lacks -/
section
variable {X : Cx}
/-- text * int -/
def rMulS : R2 := fun x y H Q => ∃ (z : Str) (n : Int), x = .str z ∧ y = .int n ∧ (2 ≤ n ∧ n ≤ 100000 ∧ 0 < z.length ∧ z.length * n.toNat ≤ sizeLine) ∧ Q (.str ⟨(List.replicate n.toNat z.cps).foldl (· ++ ·) #[]⟩) H
theorem size_rep (a : Array Nat) : ∀ (m : Nat) (acc : Array Nat), ((List.replicate m a).foldl (· ++ ·) acc).size = acc.size + m * a.size
  | 0, acc => by simp
  | m + 1, acc => by
    rw [List.replicate_succ, List.foldl_cons, size_rep a m, Array.size_append, Nat.succ_mul]
    omega
theorem op_mulS : OpR X (binaryOp .Mult) rMulS := by
  intro pins s σ H x y v u Q I rx ry h
  obtain ⟨z, n, rfl, rfl, ⟨h1, h2, h3, h4⟩, q⟩ := h
  obtain ⟨t, rfl⟩ := rx
  obtain ⟨t', rfl⟩ := ry
  have e2 : z.length * n.toNat ≤ 16777216 := by
    have e := sizeLine_eq
    omega
  refine PySem.P.mul_str ?_ ?_ ?_ ?_
  · rw [decide_eq_false (by omega), decide_eq_false (by omega)]
    rfl
  · intro _ _ hgt
    have e1 : (z.length : Int) * n ≤ 16777216 := by
      have e3 : ((n.toNat : Nat) : Int) = n := Int.toNat_of_nonneg (by omega)
      have e4 : ((z.length * n.toNat : Nat) : Int) ≤ ((16777216 : Nat) : Int) := Int.ofNat_le.mpr e2
      rw [Int.natCast_mul, e3] at e4
      exact e4
    have e5 : (z.length : Int) ≤ (2 ^ 63 - 1) / n := by
      rw [Int.le_ediv_iff_mul_le (by omega)]
      omega
    omega
  · intro _ _
    unfold PySem.Builtin.Str.tooLong
    rw [decide_eq_false_iff_not]
    omega
  · have n1 : ¬ n < 1 := by omega
    have n2 : (n == 1 || z.length == 0) = false := by
      rw [Bool.or_eq_false_iff]
      exact ⟨beq_eq_false_iff_ne.mpr (by omega), beq_eq_false_iff_ne.mpr (by omega)⟩
    rw [if_neg n1, n2]
    refine ⟨?_, ⟨.str _, H, I.tok _, ⟨_, rfl⟩, q⟩⟩
    show ((List.replicate n.toNat z.cps).foldl (· ++ ·) #[]).size ≤ sizeLine
    rw [size_rep]
    have e : z.length = z.cps.size := rfl
    rw [e, Nat.mul_comm] at h4
    simpa using h4
end

/-! ## readings under names, with their steps -/
section
variable {X : Cx} {K : PySem.W.Frag} {D : Ends} {σ : L2.St} {H : Hp} {Q : VK}
def rInt1 : List V → Hp → VK → Prop := fun xs H Q => (∃ i, xs = [.int i] ∧ Q (.int i) H) ∨ ∃ k, xs = [.bl k] ∧ Q (.int (if k then 1 else 0)) H
theorem cl_int1 : CallR X (.type "int") rInt1 := call_int1
theorem w_int1 {i : Int} (q : Q (.int i) H) : rInt1 [.int i] H Q := .inl ⟨i, rfl, q⟩
theorem w_int1b {k : Bool} (q : Q (.int (if k then 1 else 0)) H) : rInt1 [.bl k] H Q := .inr ⟨k, rfl, q⟩
def rAbs : List V → Hp → VK → Prop := fun xs H Q => ∃ i, xs = [.int i] ∧ Q (.int (if i < 0 then -i else i)) H
theorem cl_abs : CallR X (.builtin "abs") rAbs := call_abs
theorem w_abs {i : Int} (q : Q (.int (if i < 0 then -i else i)) H) : rAbs [.int i] H Q := ⟨i, rfl, q⟩
def rLenQ (K : PySem.W.Frag) : List V → Hp → VK → Prop := fun xs H Q => ∃ p ys, xs = [.ref p] ∧ (SqL K H p ys ∨ SqT K H p ys) ∧ Q (.int ys.length) H
theorem cl_lenQ : CallR X (.builtin "len") (rLenQ X.K) := call_len_seq
theorem w_lenL {p : Addr} {xs : List V} (h : H p = some (.lst xs)) (q : Q (.int xs.length) H) : rLenQ K [.ref p] H Q := ⟨p, xs, rfl, .inl (SqL.of h), q⟩
theorem w_lenT {p : Addr} {xs : List V} (h : H p = some (.tup xs)) (q : Q (.int xs.length) H) : rLenQ K [.ref p] H Q := ⟨p, xs, rfl, .inr (SqT.of h), q⟩
def rLenS : List V → Hp → VK → Prop := fun xs H Q => ∃ z, xs = [.str z] ∧ z.length ≤ sizeLine ∧ Q (.int z.length) H
theorem cl_lenS : CallR X (.builtin "len") rLenS := call_len_str
theorem w_lenS {z : Str} (h : z.length ≤ sizeLine) (q : Q (.int z.length) H) : rLenS [.str z] H Q := ⟨z, rfl, h, q⟩
def rStrI : List V → Hp → VK → Prop := fun xs H Q => ∃ i, xs = [.int i] ∧ i.natAbs.log2 < 1920 ∧ Q (.str (toString i)) H
theorem cl_strI : CallR X (.type "str") rStrI := call_str_int
theorem w_strI {i : Int} (h : i.natAbs.log2 < 1920) (q : Q (.str (toString i)) H) : rStrI [.int i] H Q := ⟨i, rfl, h, q⟩
def rIntS : List V → Hp → VK → Prop := fun xs H Q => ∃ a n, xs = [.str a] ∧ PySem.intText? a = some n ∧ a.length ≤ 640 ∧ Q (.int n) H
theorem cl_intS : CallR X (.type "int") rIntS := call_int_str
theorem w_intS {a : Str} {n : Int} (h : PySem.intText? a = some n) (l : a.length ≤ 640) (q : Q (.int n) H) : rIntS [.str a] H Q := ⟨a, n, rfl, h, l, q⟩
def rAddS : R2 := fun x y H Q => ∃ i j, x = .str i ∧ y = .str j ∧ i.length + j.length ≤ sizeLine ∧ Q (.str (i ++ j)) H
theorem op_addS : OpR X (binaryOp .Add) rAddS := op_add_str
theorem w_addS {a b : Str} (h : a.length + b.length ≤ sizeLine) (q : Q (.str (a ++ b)) H) : rAddS (.str a) (.str b) H Q := ⟨a, b, rfl, rfl, h, q⟩
def rIsN : R2 := fun x y H Q => y = .non ∧ Q (.bl (decide (x = .non))) H
theorem op_isN' : OpR X (compareOp .Is) rIsN := op_isN
theorem w_isN {x : V} (q : Q (.bl (decide (x = .non))) H) : rIsN x .non H Q := ⟨rfl, q⟩
def rNotN : R2 := fun x y H Q => y = .non ∧ Q (.bl (!decide (x = .non))) H
theorem op_notN' : OpR X (compareOp .IsNot) rNotN := op_notN
theorem w_notN {x : V} (q : Q (.bl (!decide (x = .non))) H) : rNotN x .non H Q := ⟨rfl, q⟩
def rIsB : R2 := fun x y H Q => ∃ a b, x = .bl a ∧ y = .bl b ∧ Q (.bl (decide (a = b))) H
theorem op_isB : OpR X (compareOp .Is) rIsB := op_is_bl
theorem w_isB {a b : Bool} (q : Q (.bl (decide (a = b))) H) : rIsB (.bl a) (.bl b) H Q := ⟨a, b, rfl, rfl, q⟩
def rIsNotB : R2 := fun x y H Q => ∃ a b, x = .bl a ∧ y = .bl b ∧ Q (.bl (!decide (a = b))) H
theorem op_isNotB : OpR X (compareOp .IsNot) rIsNotB := op_isnot_bl
theorem w_isNotB {a b : Bool} (q : Q (.bl (!decide (a = b))) H) : rIsNotB (.bl a) (.bl b) H Q := ⟨a, b, rfl, rfl, q⟩
def rInS : R2 := fun x y H Q => ∃ i j, x = .str i ∧ y = .str j ∧ Q (.bl (!(Builtin.Str.occurrences j i 0 j.length 1).isEmpty)) H
theorem op_inS' : OpR X (compareOp .In) rInS := op_in_str
def rIn1 : R2 := fun x y H Q => ∃ (c : Nat) (z : Str), x = .str ⟨#[c]⟩ ∧ y = .str z ∧ Q (.bl (decide (c ∈ z.cps.toList))) H
theorem op_in1 : OpR X (compareOp .In) rIn1 := op_in_sign
theorem w_in1 {c : Nat} {z : Str} (q : Q (.bl (decide (c ∈ z.cps.toList))) H) : rIn1 (.str ⟨#[c]⟩) (.str z) H Q := ⟨c, z, rfl, rfl, q⟩
def rNotIn1 : R2 := fun x y H Q => ∃ (c : Nat) (z : Str), x = .str ⟨#[c]⟩ ∧ y = .str z ∧ Q (.bl (!decide (c ∈ z.cps.toList))) H
theorem op_notIn1 : OpR X (compareOp .NotIn) rNotIn1 := op_notIn_sign
theorem w_notIn1 {c : Nat} {z : Str} (q : Q (.bl (!decide (c ∈ z.cps.toList))) H) : rNotIn1 (.str ⟨#[c]⟩) (.str z) H Q := ⟨c, z, rfl, rfl, q⟩
def rListOf (K : PySem.W.Frag) : List V → Hp → VK → Prop := fun xs H Q => ∃ p ys, xs = [.ref p] ∧ (SqL K H p ys ∨ SqT K H p ys) ∧ ∀ l, H l = none → Q (.ref l) (upd H l (.lst ys))
theorem cl_listOf : CallR X (.type "list") (rListOf X.K) := call_list_of
theorem w_listOfK {p : Addr} {ys : List V} (h : SqL K H p ys) (q : ∀ l, H l = none → Q (.ref l) (upd H l (.lst ys))) : rListOf K [.ref p] H Q := ⟨p, ys, rfl, .inl h, q⟩
theorem w_max2 {i j : Int} (q : Q (.int (if j > i then j else i)) H) : (fun (xs : List V) (H : Hp) (Q : VK) => ∃ i j, xs = [.int i, .int j] ∧ Q (.int (if j > i then j else i)) H) [.int i, .int j] H Q := ⟨i, j, rfl, q⟩

theorem w_start {t : TS} {N : List Str} {vs : List V} (e : start N vs = σ) (q : t D σ H) : t D (start N vs) H := e ▸ q
theorem w_ixL {p : Addr} {xs : List V} {i : Int} {v : V} (h : H p = some (.lst xs)) (e : atI xs i = some v) (q : Q v H) : rIxL K (.ref p) (.int i) H Q := ⟨p, xs, i, v, rfl, rfl, SqL.of h, e, q⟩
theorem w_ixT {p : Addr} {xs : List V} {i : Int} {v : V} (h : H p = some (.tup xs)) (e : atI xs i = some v) (q : Q v H) : rIxT K (.ref p) (.int i) H Q := ⟨p, xs, i, v, rfl, rfl, SqT.of h, e, q⟩
theorem w_setL {R : Hp → Prop} {p : Addr} {xs : List V} {k : Int} {v : V} {j : Nat} (h : H p = some (.lst xs)) (e : ixN xs.length k = some j) (q : R (upd H p (.lst (xs.set j v)))) : rSetL (.ref p) (.int k) v H R := ⟨p, xs, k, j, rfl, rfl, h, e, q⟩
theorem w_set31 {R : Hp → Prop} {p : Addr} {a b c v : V} (h : H p = some (.lst [a, b, c])) (q : R (upd H p (.lst [a, v, c]))) : rSetL (.ref p) (.int 1) v H R := w_setL h (j := 1) rfl q
theorem w_set32 {R : Hp → Prop} {p : Addr} {a b c v : V} (h : H p = some (.lst [a, b, c])) (q : R (upd H p (.lst [a, b, v]))) : rSetL (.ref p) (.int 2) v H R := w_setL h (j := 2) rfl q
theorem w_gSub {to ti : TE} {t : TSet} {v : V} {R : L2.St → Hp → Prop} (q : to σ H fun o H1 => ti σ H1 fun i H2 => t o i v H2 fun H3 => R σ H3) : gSub to ti t v σ H R := q
/-- a branch by a test's answer -/
theorem w_ite {c A B : Prop} [Decidable c] (h1 : c → A) (h2 : ¬ c → B) : if decide c = true then A else B := by
  by_cases h : c
  · rw [if_pos (decide_eq_true h)]
    exact h1 h
  · rw [if_neg (by rw [decide_eq_false h]; exact Bool.false_ne_true)]
    exact h2 h
theorem w_iteT {A B : Prop} {b : Bool} (h : b = true) (q : A) : if b = true then A else B := by rw [if_pos h]; exact q
theorem w_iteF {A B : Prop} {b : Bool} (h : b = false) (q : B) : if b = true then A else B := by rw [if_neg (by rw [h]; exact Bool.false_ne_true)]; exact q
theorem upd_upd' {a : Addr} {o u : HO} : upd (upd H a o) a u = upd H a u := upd_upd
def CMulA (i j : Int) : Prop := CMul i j ∨ CMulW i j
theorem op_mulA : OpR X (binaryOp .Mult) (rI CMulA fun i j => .int (i * j)) := opI fun _ _ _ _ _ _ _ hc q => mul_int q (hc.elim (fun h => h.ok) fun h => h.ok)
theorem dpAll_ints {K : PySem.W.Frag} {H : Hp} : ∀ ns : List Int, DpAll K H (ns.map V.int) (ns.map PyData.int)
  | [] => .nil
  | n :: ns => .cons (.int n) (dpAll_ints ns)
theorem canLay_ints : ∀ ns : List Int, PyData.canLayAll0 (ns.map PyData.int) = true
  | [] => rfl
  | n :: ns => by
    show (PyData.canLay0 (.int n) && PyData.canLayAll0 (ns.map PyData.int)) = true
    rw [canLay_ints ns]
    rfl
theorem depth_ints : ∀ ns : List Int, PyData.depthAll (ns.map PyData.int) ≤ 1
  | [] => by decide
  | n :: ns => by
    have h := depth_ints ns
    show max (PyData.depth (.int n)) (PyData.depthAll (ns.map PyData.int)) ≤ 1
    exact Nat.max_le.mpr ⟨Nat.zero_le _, h⟩
theorem shaped_ints (ns : List Int) : SeqAt.shaped (.list (ns.map PyData.int)) = true := by
  unfold SeqAt.shaped
  rw [Bool.and_eq_true]
  refine ⟨canLay_ints ns, decide_eq_true ?_⟩
  have h := depth_ints ns
  show PyData.depthAll (ns.map PyData.int) + 1 ≤ 64
  omega
theorem w_neNil {c q : Addr} {ns : List Int} (h : H c = some (.lst (ns.map V.int))) (h2 : H q = some (.lst [])) (k : Q (.bl (!decide (ns = []))) H) : rNeD K (.ref c) (.ref q) H Q := by
  refine ⟨.list (ns.map PyData.int), .list [], .lst (SqL.of h) (dpAll_ints ns), .lst (SqL.of h2) .nil, shaped_ints ns, by decide, ?_⟩
  have e : PyData.eqv (.list (ns.map PyData.int)) (.list []) = decide (ns = []) := by
    cases ns with
    | nil => rfl
    | cons n r => rfl
  rw [e]
  exact k
theorem w_itN {c A B : Prop} [Decidable c] (h1 : ¬ c → A) (h2 : c → B) : if (!decide c) = true then A else B := by
  by_cases h : c
  · rw [decide_eq_true h]
    exact iteF (h2 h)
  · rw [decide_eq_false h]
    exact iteT (h1 h)
theorem atI_map {ns : List Int} {i : Int} (h0 : 0 ≤ i) (h1 : i < ns.length) : atI (ns.map V.int) i = some (.int (ns.getD i.toNat 0)) := by
  have h2 : i.toNat < ns.length := by omega
  unfold atI ixN
  rw [List.length_map, if_pos h0, if_pos h1]
  show (ns.map V.int)[i.toNat]? = _
  rw [List.getElem?_map, List.getElem?_eq_getElem h2]
  show some (V.int ns[i.toNat]) = some (V.int (ns.getD i.toNat 0))
  rw [List.getD_eq_getElem?_getD, List.getElem?_eq_getElem h2]
  rfl
end

/-! ## comprehensions whose element is a value of the item -/
/-- a walk over xs that leaves the heap as it is, wherever what H1 held stands -/
structure PureIt (J : It) (H1 : Hp) (xs : List V) : Prop where
  go : ∀ H', Same H1 H' → ∀ i, i < xs.length → J.go i H'
  stop : ∀ H', Same H1 H' → ∀ i, xs.length ≤ i → J.stop i H'
  yld : ∀ H', Same H1 H' → ∀ i x H'', i < xs.length → J.yld i H' x H'' → H'' = H' ∧ xs[i]? = some x
section
variable {K : PySem.W.Frag} {H1 : Hp} {σ : L2.St} {Q : VK}
theorem pureIt_list {a : Addr} {xs : List V} (h : SqL K H1 a xs) : PureIt (Itl K a) H1 xs where
  go := fun H' e i hi => ⟨xs, xs[i], e.seq h, List.getElem?_eq_getElem hi⟩
  stop := fun H' e i hi => ⟨xs, e.seq h, hi⟩
  yld := fun H' e i x H'' _ y => ⟨y.1, y.2 xs (e.seq h)⟩
theorem same_seqT {H H' : Hp} {a : Addr} {xs : List V} (e : Same H H') (h : SqT K H a xs) : SqT K H' a xs := by
  rcases h with (h | ⟨o, h⟩) | h
  · exact .inl (.inl (e _ _ h))
  · exact .inl (.inr ⟨o, e _ _ h⟩)
  · exact .inr h
theorem pureIt_tup {a : Addr} {xs : List V} (h : SqT K H1 a xs) : PureIt (Itt K a) H1 xs where
  go := fun H' e i hi => ⟨xs, xs[i], same_seqT e h, List.getElem?_eq_getElem hi⟩
  stop := fun H' e i hi => ⟨xs, same_seqT e h, hi⟩
  yld := fun H' e i x H'' _ y => ⟨y.1, y.2 xs (same_seqT e h)⟩
/-- the signs of a text, as texts -/
def signsV (z : Str) : List V := z.cps.toList.map fun c => .str ⟨#[c]⟩
theorem pureIt_str {z : Str} : PureIt (Its z) H1 (signsV z) where
  go := fun H' _ i hi => by
    have : (signsV z).length = z.cps.size := by simp [signsV]
    show i < z.cps.size
    omega
  stop := fun H' _ i hi => by
    have : (signsV z).length = z.cps.size := by simp [signsV]
    show z.cps.size ≤ i
    omega
  yld := fun H' _ i x H'' _ y => by
    obtain ⟨e, c, h1, rfl⟩ := y
    refine ⟨e, ?_⟩
    unfold signsV
    rw [List.getElem?_map, Array.getElem?_toList, h1]
    rfl
/-- the ints of a range -/
def rangeV (lo : Int) (n : Nat) : List V := (List.range n).map fun (i : Nat) => .int (lo + i)
theorem pureIt_rng {lo : Int} {n : Nat} : PureIt (Itr lo n) H1 (rangeV lo n) where
  go := fun H' _ i hi => by
    have : (rangeV lo n).length = n := by simp [rangeV]
    show i < n
    omega
  stop := fun H' _ i hi => by
    have : (rangeV lo n).length = n := by simp [rangeV]
    show n ≤ i
    omega
  yld := fun H' _ i x H'' hi y => by
    have e : (rangeV lo n).length = n := by simp [rangeV]
    refine ⟨y.1, ?_⟩
    rw [y.2]
    unfold rangeV
    rw [List.getElem?_map, List.getElem?_range (by omega)]
    rfl
theorem same_new {H' : Hp} {D : Addr} {o : HO} (h : H1 D = none) (e : Same H1 H') : Same H1 (upd H' D o) := fun b u hb => by
  rw [upd_ne (ne_of_none hb h)]
  exact e b u hb
/-- [e for x in xs if t]: p and f say what the test and the element are worth; anything may be made on the way -/
theorem lcI_by {J : It} {xs : List V} {k : Nat} {tt : TT} {te : TE} {vs : List Nat} (p : V → Bool) (f : V → V) (hJ : PureIt J H1 xs) (hl : xs.length ≤ sizeLine)
    (ht : ∀ x ∈ xs, ∀ H', Same H1 H' → ∀ R : Bool → Hp → Prop, (∀ H'', Same H' H'' → R (p x) H'') → tt ((wipe σ vs).set k (some x)) H' R)
    (hel : ∀ x ∈ xs, p x = true → ∀ H', Same H1 H' → ∀ R : VK, (∀ H'', Same H' H'' → R (f x) H'') → te ((wipe σ vs).set k (some x)) H' R)
    (q : ∀ D H', H1 D = none → Same H1 H' → H' D = some (.lst ((xs.filter p).map f)) → Q (.ref D) H') (hw : ∀ v, wipe ((wipe σ vs).set k (some v)) vs = wipe σ vs := by intro _; rfl) :
    ∀ D, H1 D = none → ∃ W : Nat → Nat → Hp → Prop, (∃ m, W 0 m (upd H1 D (.lst []))) ∧ ∀ i m H, W i m H →
      (J.stop i H ∧ Q (.ref D) H) ∨ (J.go i H ∧ ∃ Nx : Hp → Prop, (∀ H', Nx H' → ∃ m', m' < m ∧ W (i + 1) m' H') ∧ ∀ x H', J.yld i H x H' → gName k x (wipe σ vs) H' fun σ2 H2 => wipe σ2 vs = wipe σ vs ∧ tt σ2 H2 fun b H3 =>
        if b = true then te σ2 H3 fun y H4 => ∃ acc, H4 D = some (.lst acc) ∧ acc.length < sizeLine ∧ Nx (upd H4 D (.lst (acc ++ [y]))) else Nx H3) := by
  intro D hD
  refine ⟨fun i m H => m = xs.length - i ∧ i ≤ xs.length ∧ Same H1 H ∧ H D = some (.lst (((xs.take i).filter p).map f)), ⟨xs.length, by simp, Nat.zero_le _, same_new hD (Same.refl H1), upd_same⟩, ?_⟩
  rintro i m H ⟨rfl, hi, e, hd⟩
  by_cases hlt : i < xs.length
  · refine .inr ⟨hJ.go H e i hlt, fun H' => Same H1 H' ∧ H' D = some (.lst (((xs.take (i + 1)).filter p).map f)), fun H' ⟨e', d'⟩ => ⟨xs.length - (i + 1), by omega, rfl, hlt, e', d'⟩, fun x H' y => ?_⟩
    obtain ⟨rfl, hx⟩ := hJ.yld H e i x H' hlt y
    have hm : x ∈ xs := List.mem_of_getElem? hx
    have htk : xs.take (i + 1) = xs.take i ++ [x] := by rw [List.take_add_one, hx]; rfl
    refine ⟨hw x, ht x hm H' e _ fun H2 e2 => ?_⟩
    cases hp : p x with
    | true =>
      rw [if_pos rfl]
      refine hel x hm hp H2 (e.trans e2) _ fun H3 e3 => ⟨((xs.take i).filter p).map f, e3 _ _ (e2 _ _ hd), ?_, ?_, ?_⟩
      · have h1 : ((xs.take i).filter p).length ≤ (xs.take i).length := List.length_filter_le ..
        rw [List.length_map]
        rw [List.length_take] at h1
        omega
      · exact same_new hD ((e.trans e2).trans e3)
      · rw [upd_same, htk, List.filter_append, List.map_append, List.filter_cons, hp]
        rfl
    | false =>
      rw [if_neg Bool.false_ne_true]
      refine ⟨e.trans e2, ?_⟩
      rw [e2 _ _ hd, htk, List.filter_append, List.filter_cons, hp]
      simp
  · have hi' : i = xs.length := by omega
    subst hi'
    refine .inl ⟨hJ.stop H e _ (Nat.le_refl _), q D H hD e ?_⟩
    rw [hd, List.take_length]
/-- without a test -/
theorem lcI_map {J : It} {xs : List V} {k : Nat} {te : TE} {vs : List Nat} (f : V → V) (hJ : PureIt J H1 xs) (hl : xs.length ≤ sizeLine)
    (hel : ∀ x ∈ xs, ∀ H', Same H1 H' → ∀ R : VK, (∀ H'', Same H' H'' → R (f x) H'') → te ((wipe σ vs).set k (some x)) H' R)
    (q : ∀ D H', H1 D = none → Same H1 H' → H' D = some (.lst (xs.map f)) → Q (.ref D) H') (hw : ∀ v, wipe ((wipe σ vs).set k (some v)) vs = wipe σ vs := by intro _; rfl) :
    ∀ D, H1 D = none → ∃ W : Nat → Nat → Hp → Prop, (∃ m, W 0 m (upd H1 D (.lst []))) ∧ ∀ i m H, W i m H →
      (J.stop i H ∧ Q (.ref D) H) ∨ (J.go i H ∧ ∃ Nx : Hp → Prop, (∀ H', Nx H' → ∃ m', m' < m ∧ W (i + 1) m' H') ∧ ∀ x H', J.yld i H x H' → gName k x (wipe σ vs) H' fun σ2 H2 => wipe σ2 vs = wipe σ vs ∧ tYes σ2 H2 fun b H3 =>
        if b = true then te σ2 H3 fun y H4 => ∃ acc, H4 D = some (.lst acc) ∧ acc.length < sizeLine ∧ Nx (upd H4 D (.lst (acc ++ [y]))) else Nx H3) :=
  lcI_by (fun _ => true) f hJ hl (fun _ _ H' _ R hR => hR H' (Same.refl H')) (fun x hm _ => hel x hm) (fun D H' h1 h2 h3 => q D H' h1 h2 (by rw [h3, List.filter_eq_self.mpr fun _ _ => rfl])) hw
theorem w_lc {wi : TI} {g : TG} {tt : TT} {te : TE} {vs : List Nat} {H : Hp} (q : wi σ H fun J H1 => ∀ D, H1 D = none → ∃ W : Nat → Nat → Hp → Prop, (∃ m, W 0 m (upd H1 D (.lst []))) ∧ ∀ i m H, W i m H →
      (J.stop i H ∧ Q (.ref D) H) ∨ (J.go i H ∧ ∃ Nx : Hp → Prop, (∀ H', Nx H' → ∃ m', m' < m ∧ W (i + 1) m' H') ∧ ∀ x H', J.yld i H x H' → g x (wipe σ vs) H' fun σ2 H2 => wipe σ2 vs = wipe σ vs ∧ tt σ2 H2 fun b H3 =>
        if b = true then te σ2 H3 fun y H4 => ∃ acc, H4 D = some (.lst acc) ∧ acc.length < sizeLine ∧ Nx (upd H4 D (.lst (acc ++ [y]))) else Nx H3)) : tLc wi g tt te vs σ H Q := q
theorem w_iStr {te : TE} {R : It → Hp → Prop} {H : Hp} (q : te σ H fun v H1 => ∃ x, v = .str x ∧ R (Its x) H1) : iStr te σ H R := q
theorem w_str {a : Str} {P : Str → Prop} (q : P a) : ∃ i, V.str a = .str i ∧ P i := ⟨a, rfl, q⟩
theorem w_iRng1 {ta : TA} {R : It → Hp → Prop} {H : Hp} (q : ta σ H fun vs H1 => ∃ j : Int, vs = [.int j] ∧ -(2 ^ 62) ≤ j ∧ j < 2 ^ 62 ∧ R (Itr 0 j.toNat) H1) : iRng1 ta σ H R := q
theorem w_rng1 {j : Int} {P : Int → Prop} (h : -(2 ^ 62) ≤ j ∧ j < 2 ^ 62) (q : P j) : ∃ i : Int, [V.int j] = [.int i] ∧ -(2 ^ 62) ≤ i ∧ i < 2 ^ 62 ∧ P i := ⟨j, rfl, h.1, h.2, q⟩
theorem w_iRng2 {ta : TA} {R : It → Hp → Prop} {H : Hp} (q : ta σ H fun vs H1 => ∃ i j : Int, vs = [.int i, .int j] ∧ (-(2 ^ 62) ≤ i ∧ i < 2 ^ 62 ∧ -(2 ^ 62) ≤ j ∧ j < 2 ^ 62) ∧ R (Itr i (j - i).toNat) H1) : iRng2 ta σ H R := q
theorem w_rng2 {a b : Int} {P : Int → Int → Prop} (h : -(2 ^ 62) ≤ a ∧ a < 2 ^ 62 ∧ -(2 ^ 62) ≤ b ∧ b < 2 ^ 62) (q : P a b) : ∃ i j : Int, [V.int a, V.int b] = [.int i, .int j] ∧ (-(2 ^ 62) ≤ i ∧ i < 2 ^ 62 ∧ -(2 ^ 62) ≤ j ∧ j < 2 ^ 62) ∧ P i j := ⟨a, b, rfl, h, q⟩
theorem w_iList {tl : TE} {R : It → Hp → Prop} {H : Hp} (q : tl σ H fun x H1 => ∃ a, x = .ref a ∧ (∃ xs, SqL K H1 a xs) ∧ R (Itl K a) H1) : iList K tl σ H R := q
theorem w_lstAt {H : Hp} {p : Addr} {xs : List V} {P : Addr → Prop} (h : H p = some (.lst xs)) (q : P p) : ∃ a, V.ref p = .ref a ∧ (∃ xs, SqL K H a xs) ∧ P a := ⟨p, rfl, ⟨xs, SqL.of h⟩, q⟩
theorem w_iTup {tl : TE} {R : It → Hp → Prop} {H : Hp} (q : tl σ H fun x H1 => ∃ a, x = .ref a ∧ (∃ xs, SqT K H1 a xs) ∧ R (Itt K a) H1) : iTup K tl σ H R := q
theorem w_tupAt {H : Hp} {p : Addr} {xs : List V} {P : Addr → Prop} (h : H p = some (.tup xs)) (q : P p) : ∃ a, V.ref p = .ref a ∧ (∃ xs, SqT K H a xs) ∧ P a := ⟨p, rfl, ⟨xs, SqT.of h⟩, q⟩
theorem w_for {wi : TI} {g : TG} {tb : TS} {D : Ends} {H : Hp} (q : wi σ H fun J H1 => ∃ W : Nat → Nat → L2.St → Hp → Prop, (∃ m, W 0 m σ H1) ∧ ∀ i m σ H, W i m σ H →
  (J.stop i H ∧ D.nx σ H) ∨ (J.go i H ∧ ∃ N : L2.St → Hp → Prop, (∀ σ' H', N σ' H' → ∃ m', m' < m ∧ W (i + 1) m' σ' H') ∧ ∀ x H', J.yld i H x H' → g x σ H' fun σ2 H2 => tb { D with nx := N, ct := N, bk := D.nx } σ2 H2)) : tFor wi g tb D σ H := q
/-- all([..]), any([..]) of a new list of bools -/
theorem w_all {p : Addr} {bs : List Bool} {H : Hp} (h : H p = some (.lst (bs.map V.bl))) (q : Q (.bl (bs.all id)) H) : rAll K [.ref p] H Q := ⟨p, bs, rfl, SqL.of h, q⟩
theorem w_any {p : Addr} {bs : List Bool} {H : Hp} (h : H p = some (.lst (bs.map V.bl))) (q : Q (.bl (bs.any id)) H) : rAny K [.ref p] H Q := ⟨p, bs, rfl, SqL.of h, q⟩
theorem w_slS {z : Str} {lo hi : Option Int} {H : Hp} (h : z.length ≤ sizeLine) (q : Q (.str (cutS z lo hi)) H) : rSlS (.str z) lo hi H Q := ⟨z, rfl, h, q⟩
theorem w_slL {a : Addr} {xs : List V} {lo hi : Option Int} {H : Hp} (h : SqL K H a xs) (q : ∀ p, H p = none → Q (.ref p) (upd H p (.lst (cutV xs lo hi)))) : rSlL K (.ref a) lo hi H Q := ⟨a, xs, rfl, h, q⟩
end

/-! ## values of built-in kinds -/
inductive BV (H : Hp) : V → String → Prop
  | non : BV H .non "NoneType"
  | bl (b : Bool) : BV H (.bl b) "bool"
  | int (i : Int) : BV H (.int i) "int"
  | str (z : Str) : BV H (.str z) "str"
  | lst {a : Addr} {xs : List V} (h : H a = some (.lst xs)) : BV H (.ref a) "list"
  | tup {a : Addr} {xs : List V} (h : H a = some (.tup xs)) : BV H (.ref a) "tuple"
  | dK {a : Addr} {kvs : List (Key × V)} (h : H a = some (.dK kvs)) : BV H (.ref a) "dict"
theorem BV.ty {K : PySem.W.Frag} {H : Hp} {x : V} {n : String} (b : BV H x n) : TyX K H x (.type n) := by
  cases b with
  | non => exact .base .non
  | bl b => exact .base (.bl b)
  | int i => exact .base (.int i)
  | str z => exact .base (.str z)
  | lst h => exact .base (.lst h)
  | tup h => exact .base (.tup h)
  | dK h => exact .base (.dK h)
theorem BV.same {H H' : Hp} {x : V} {n : String} (e : Same H H') (b : BV H x n) : BV H' x n := by
  cases b with
  | non => exact .non
  | bl b => exact .bl b
  | int i => exact .int i
  | str z => exact .str z
  | lst h => exact .lst (e _ _ h)
  | tup h => exact .tup (e _ _ h)
  | dK h => exact .dK (e _ _ h)
section
variable {K : PySem.W.Frag} {H : Hp} {Q : VK} {x : V} {n : String}
theorem w_isi {c : String} {k : Bool} (b : BV H x n) (e : PySem.W.kitOne K (.type n) (.type c) = some k) (q : Q (.bl k) H) : rIsi K [x, .ty c] H Q := ⟨x, .ty c, .type n, .type c, k, rfl, .ty c, b.ty, e, q⟩
theorem w_isiInt (b : BV H x n) (q : Q (.bl (n == "int" || n == "bool")) H) : rIsi K [x, .ty "int"] H Q := by
  refine w_isi b (k := (n == "int" || n == "bool")) ?_ q
  cases b <;> exact kit_ty (by decide +kernel)
theorem w_isiBool (b : BV H x n) (q : Q (.bl (n == "bool")) H) : rIsi K [x, .ty "bool"] H Q := by
  refine w_isi b (k := (n == "bool")) ?_ q
  cases b <;> exact kit_ty (by decide +kernel)
theorem w_isiStr (b : BV H x n) (q : Q (.bl (n == "str")) H) : rIsi K [x, .ty "str"] H Q := by
  refine w_isi b (k := (n == "str")) ?_ q
  cases b <;> exact kit_ty (by decide +kernel)
end
def isIntV : V → Bool
  | .int _ => true
  | _ => false
def betV (lo hi : Int) : V → Bool
  | .int i => decide (lo ≤ i) && decide (i ≤ hi)
  | _ => false

/-! ## comprehensions over a text's signs, over a range -/
section
variable {H1 : Hp} {σ : L2.St} {Q : VK}
theorem lcI_strBy {z : Str} {k : Nat} {tt : TT} {te : TE} {vs : List Nat} (p : Nat → Bool) (f : Nat → V) (hl : z.length ≤ sizeLine)
    (ht : ∀ c ∈ z.cps.toList, ∀ H', Same H1 H' → ∀ R : Bool → Hp → Prop, (∀ H'', Same H' H'' → R (p c) H'') → tt ((wipe σ vs).set k (some (.str ⟨#[c]⟩))) H' R)
    (hel : ∀ c ∈ z.cps.toList, p c = true → ∀ H', Same H1 H' → ∀ R : VK, (∀ H'', Same H' H'' → R (f c) H'') → te ((wipe σ vs).set k (some (.str ⟨#[c]⟩))) H' R)
    (q : ∀ D H', H1 D = none → Same H1 H' → H' D = some (.lst ((z.cps.toList.filter p).map f)) → Q (.ref D) H') (hw : ∀ v, wipe ((wipe σ vs).set k (some v)) vs = wipe σ vs := by intro _; rfl) :
    ∀ D, H1 D = none → ∃ W : Nat → Nat → Hp → Prop, (∃ m, W 0 m (upd H1 D (.lst []))) ∧ ∀ i m H, W i m H →
      ((Its z).stop i H ∧ Q (.ref D) H) ∨ ((Its z).go i H ∧ ∃ Nx : Hp → Prop, (∀ H', Nx H' → ∃ m', m' < m ∧ W (i + 1) m' H') ∧ ∀ x H', (Its z).yld i H x H' → gName k x (wipe σ vs) H' fun σ2 H2 => wipe σ2 vs = wipe σ vs ∧ tt σ2 H2 fun b H3 =>
        if b = true then te σ2 H3 fun y H4 => ∃ acc, H4 D = some (.lst acc) ∧ acc.length < sizeLine ∧ Nx (upd H4 D (.lst (acc ++ [y]))) else Nx H3) := by
  let pV : V → Bool := fun x => match x with | .str s => p (s.cps.toList.headD 0) | _ => true
  let fV : V → V := fun x => match x with | .str s => f (s.cps.toList.headD 0) | _ => .non
  have hm : ∀ x ∈ signsV z, ∃ c ∈ z.cps.toList, x = .str ⟨#[c]⟩ := fun x hx => by
    obtain ⟨c, h1, h2⟩ := List.mem_map.mp hx
    exact ⟨c, h1, h2.symm⟩
  have e : ∀ l : List Nat, ((l.map fun c => V.str ⟨#[c]⟩).filter pV).map fV = (l.filter p).map f := fun l => by
    induction l with
    | nil => rfl
    | cons c l ih =>
      rw [List.map_cons, List.filter_cons, List.filter_cons]
      have h1 : pV (.str ⟨#[c]⟩) = p c := rfl
      rw [h1]
      cases p c with
      | true => rw [if_pos rfl, if_pos rfl, List.map_cons, List.map_cons, ih]; rfl
      | false => rw [if_neg Bool.false_ne_true, if_neg Bool.false_ne_true, ih]
  refine lcI_by pV fV pureIt_str (by rw [show (signsV z).length = z.length by simp [signsV, PySem.Str.length]]; exact hl) (fun x hx H' e1 R hR => ?_) (fun x hx hp H' e1 R hR => ?_) (fun D H' h1 h2 h3 => q D H' h1 h2 (by rw [h3]; exact congrArg (fun l => some (HO.lst l)) (e _))) hw
  · obtain ⟨c, hc, rfl⟩ := hm x hx
    exact ht c hc H' e1 R hR
  · obtain ⟨c, hc, rfl⟩ := hm x hx
    exact hel c hc hp H' e1 R hR
theorem lcI_str {z : Str} {k : Nat} {te : TE} {vs : List Nat} (f : Nat → V) (hl : z.length ≤ sizeLine)
    (hel : ∀ c ∈ z.cps.toList, ∀ H', Same H1 H' → ∀ R : VK, (∀ H'', Same H' H'' → R (f c) H'') → te ((wipe σ vs).set k (some (.str ⟨#[c]⟩))) H' R)
    (q : ∀ D H', H1 D = none → Same H1 H' → H' D = some (.lst (z.cps.toList.map f)) → Q (.ref D) H') (hw : ∀ v, wipe ((wipe σ vs).set k (some v)) vs = wipe σ vs := by intro _; rfl) :
    ∀ D, H1 D = none → ∃ W : Nat → Nat → Hp → Prop, (∃ m, W 0 m (upd H1 D (.lst []))) ∧ ∀ i m H, W i m H →
      ((Its z).stop i H ∧ Q (.ref D) H) ∨ ((Its z).go i H ∧ ∃ Nx : Hp → Prop, (∀ H', Nx H' → ∃ m', m' < m ∧ W (i + 1) m' H') ∧ ∀ x H', (Its z).yld i H x H' → gName k x (wipe σ vs) H' fun σ2 H2 => wipe σ2 vs = wipe σ vs ∧ tYes σ2 H2 fun b H3 =>
        if b = true then te σ2 H3 fun y H4 => ∃ acc, H4 D = some (.lst acc) ∧ acc.length < sizeLine ∧ Nx (upd H4 D (.lst (acc ++ [y]))) else Nx H3) :=
  lcI_strBy (fun _ => true) f hl (fun _ _ H' _ R hR => hR H' (Same.refl H')) (fun c hc _ => hel c hc) (fun D H' h1 h2 h3 => q D H' h1 h2 (by rw [h3, List.filter_eq_self.mpr fun _ _ => rfl])) hw
theorem lcI_rng {lo : Int} {n : Nat} {k : Nat} {te : TE} {vs : List Nat} (f : Nat → V) (hl : n ≤ sizeLine)
    (hel : ∀ i, i < n → ∀ H', Same H1 H' → ∀ R : VK, (∀ H'', Same H' H'' → R (f i) H'') → te ((wipe σ vs).set k (some (.int (lo + i)))) H' R)
    (q : ∀ D H', H1 D = none → Same H1 H' → H' D = some (.lst ((List.range n).map f)) → Q (.ref D) H') (hw : ∀ v, wipe ((wipe σ vs).set k (some v)) vs = wipe σ vs := by intro _; rfl) :
    ∀ D, H1 D = none → ∃ W : Nat → Nat → Hp → Prop, (∃ m, W 0 m (upd H1 D (.lst []))) ∧ ∀ i m H, W i m H →
      ((Itr lo n).stop i H ∧ Q (.ref D) H) ∨ ((Itr lo n).go i H ∧ ∃ Nx : Hp → Prop, (∀ H', Nx H' → ∃ m', m' < m ∧ W (i + 1) m' H') ∧ ∀ x H', (Itr lo n).yld i H x H' → gName k x (wipe σ vs) H' fun σ2 H2 => wipe σ2 vs = wipe σ vs ∧ tYes σ2 H2 fun b H3 =>
        if b = true then te σ2 H3 fun y H4 => ∃ acc, H4 D = some (.lst acc) ∧ acc.length < sizeLine ∧ Nx (upd H4 D (.lst (acc ++ [y]))) else Nx H3) := by
  let fV : V → V := fun x => match x with | .int i => f (i - lo).toNat | _ => .non
  refine lcI_map fV pureIt_rng (by simpa [rangeV] using hl) (fun x hx H' e1 R hR => ?_) (fun D H' h1 h2 h3 => q D H' h1 h2 ?_) hw
  · obtain ⟨i, hi, rfl⟩ := List.mem_map.mp hx
    have hi' : i < n := List.mem_range.mp hi
    have e : fV (.int (lo + (i : Int))) = f i := by
      show f (lo + (i : Int) - lo).toNat = f i
      congr 1
      omega
    rw [e] at hR
    exact hel i hi' H' e1 R hR
  · rw [h3]
    unfold rangeV
    rw [List.map_map]
    congr 2
    refine List.map_congr_left fun i _ => ?_
    show f (lo + (i : Int) - lo).toNat = f i
    congr 1
    omega
end
/-! ## .. the whole comprehension: ts is its source's reading, hs what it gives -/
section
variable {K : PySem.W.Frag} {σ : L2.St} {Q : VK} {k : Nat} {tt : TT} {te ts : TE} {vs : List Nat} {H : Hp}
theorem lc_strBy (H1 : Hp) (z : Str) (p : Nat → Bool) (f : Nat → V) (hs : ∀ R : VK, R (.str z) H1 → ts σ H R) (hl : z.length ≤ sizeLine)
    (ht : ∀ c ∈ z.cps.toList, ∀ H', Same H1 H' → ∀ R : Bool → Hp → Prop, (∀ H'', Same H' H'' → R (p c) H'') → tt ((wipe σ vs).set k (some (.str ⟨#[c]⟩))) H' R)
    (hel : ∀ c ∈ z.cps.toList, p c = true → ∀ H', Same H1 H' → ∀ R : VK, (∀ H'', Same H' H'' → R (f c) H'') → te ((wipe σ vs).set k (some (.str ⟨#[c]⟩))) H' R)
    (q : ∀ D H', H1 D = none → Same H1 H' → H' D = some (.lst ((z.cps.toList.filter p).map f)) → Q (.ref D) H') (hw : ∀ v, wipe ((wipe σ vs).set k (some v)) vs = wipe σ vs := by intro _; rfl) :
    tLc (iStr ts) (gName k) tt te vs σ H Q := hs _ ⟨z, rfl, lcI_strBy p f hl ht hel q hw⟩
theorem lc_str (H1 : Hp) (z : Str) (f : Nat → V) (hs : ∀ R : VK, R (.str z) H1 → ts σ H R) (hl : z.length ≤ sizeLine)
    (hel : ∀ c ∈ z.cps.toList, ∀ H', Same H1 H' → ∀ R : VK, (∀ H'', Same H' H'' → R (f c) H'') → te ((wipe σ vs).set k (some (.str ⟨#[c]⟩))) H' R)
    (q : ∀ D H', H1 D = none → Same H1 H' → H' D = some (.lst (z.cps.toList.map f)) → Q (.ref D) H') (hw : ∀ v, wipe ((wipe σ vs).set k (some v)) vs = wipe σ vs := by intro _; rfl) :
    tLc (iStr ts) (gName k) tYes te vs σ H Q := hs _ ⟨z, rfl, lcI_str f hl hel q hw⟩
theorem lc_rng1 {ta : TA} (H1 : Hp) (n : Nat) (f : Nat → V) (hs : ∀ R : List V → Hp → Prop, R [.int (n : Int)] H1 → ta σ H R) (hl : n ≤ sizeLine)
    (hel : ∀ i, i < n → ∀ H', Same H1 H' → ∀ R : VK, (∀ H'', Same H' H'' → R (f i) H'') → te ((wipe σ vs).set k (some (.int (0 + (i : Int))))) H' R)
    (q : ∀ D H', H1 D = none → Same H1 H' → H' D = some (.lst ((List.range n).map f)) → Q (.ref D) H') (hw : ∀ v, wipe ((wipe σ vs).set k (some v)) vs = wipe σ vs := by intro _; rfl) :
    tLc (iRng1 ta) (gName k) tYes te vs σ H Q := by
  have h1 : (n : Int) ≤ 16777216 := by
    have := sizeLine_eq
    omega
  exact hs _ ⟨n, rfl, by omega, by omega, lcI_rng f hl hel q hw⟩
theorem lc_list (H1 : Hp) (a : Addr) (xs : List V) (f : V → V) (hs : ∀ R : VK, R (.ref a) H1 → ts σ H R) (ha : SqL K H1 a xs) (hl : xs.length ≤ sizeLine)
    (hel : ∀ x ∈ xs, ∀ H', Same H1 H' → ∀ R : VK, (∀ H'', Same H' H'' → R (f x) H'') → te ((wipe σ vs).set k (some x)) H' R)
    (q : ∀ D H', H1 D = none → Same H1 H' → H' D = some (.lst (xs.map f)) → Q (.ref D) H') (hw : ∀ v, wipe ((wipe σ vs).set k (some v)) vs = wipe σ vs := by intro _; rfl) :
    tLc (iList K ts) (gName k) tYes te vs σ H Q := hs _ ⟨a, rfl, ⟨xs, ha⟩, lcI_map f (pureIt_list ha) hl hel q hw⟩
theorem lc_listBy (H1 : Hp) (a : Addr) (xs : List V) (p : V → Bool) (f : V → V) (hs : ∀ R : VK, R (.ref a) H1 → ts σ H R) (ha : SqL K H1 a xs) (hl : xs.length ≤ sizeLine)
    (ht : ∀ x ∈ xs, ∀ H', Same H1 H' → ∀ R : Bool → Hp → Prop, (∀ H'', Same H' H'' → R (p x) H'') → tt ((wipe σ vs).set k (some x)) H' R)
    (hel : ∀ x ∈ xs, p x = true → ∀ H', Same H1 H' → ∀ R : VK, (∀ H'', Same H' H'' → R (f x) H'') → te ((wipe σ vs).set k (some x)) H' R)
    (q : ∀ D H', H1 D = none → Same H1 H' → H' D = some (.lst ((xs.filter p).map f)) → Q (.ref D) H') (hw : ∀ v, wipe ((wipe σ vs).set k (some v)) vs = wipe σ vs := by intro _; rfl) :
    tLc (iList K ts) (gName k) tt te vs σ H Q := hs _ ⟨a, rfl, ⟨xs, ha⟩, lcI_by p f (pureIt_list ha) hl ht hel q hw⟩
theorem lc_tup (H1 : Hp) (a : Addr) (xs : List V) (f : V → V) (hs : ∀ R : VK, R (.ref a) H1 → ts σ H R) (ha : SqT K H1 a xs) (hl : xs.length ≤ sizeLine)
    (hel : ∀ x ∈ xs, ∀ H', Same H1 H' → ∀ R : VK, (∀ H'', Same H' H'' → R (f x) H'') → te ((wipe σ vs).set k (some x)) H' R)
    (q : ∀ D H', H1 D = none → Same H1 H' → H' D = some (.lst (xs.map f)) → Q (.ref D) H') (hw : ∀ v, wipe ((wipe σ vs).set k (some v)) vs = wipe σ vs := by intro _; rfl) :
    tLc (iTup K ts) (gName k) tYes te vs σ H Q := hs _ ⟨a, rfl, ⟨xs, ha⟩, lcI_map f (pureIt_tup ha) hl hel q hw⟩
end
/-! ## len of anything, an item of anything -/
section
variable {X : Cx} {K : PySem.W.Frag} {H : Hp} {Q : VK}
def rLenA (K : PySem.W.Frag) : List V → Hp → VK → Prop := fun xs H Q => ∃ x n, xs = [x] ∧ LenV K x H n ∧ Q (.int n) H
theorem cl_lenA : CallR X (.builtin "len") (rLenA X.K) := call_len
/-- a list, a tuple or a text, by its items -/
inductive Row (K : PySem.W.Frag) (H : Hp) : V → List V → Prop
  | lst {a : Addr} {xs : List V} (h : SqL K H a xs) : Row K H (.ref a) xs
  | tup {a : Addr} {xs : List V} (h : SqT K H a xs) : Row K H (.ref a) xs
  | str {z : Str} (h : z.length ≤ sizeLine) : Row K H (.str z) (signsV z)
theorem w_lenA {x : V} {xs : List V} (r : Row K H x xs) (q : Q (.int xs.length) H) : rLenA K [x] H Q := by
  cases r with
  | lst h => exact ⟨_, _, rfl, .inl ⟨_, h, rfl⟩, q⟩
  | tup h => exact ⟨_, _, rfl, .inr ⟨_, h, rfl⟩, q⟩
  | @str z h =>
    refine ⟨_, z.length, rfl, ⟨h, rfl⟩, ?_⟩
    have e : (signsV z).length = z.length := by simp [signsV, PySem.Str.length]
    rw [e] at q
    exact q
theorem atI_get {α : Type} {xs : List α} {i : Int} (h0 : 0 ≤ i) (h1 : i < xs.length) : ∃ v, atI xs i = some v ∧ xs[i.toNat]? = some v := by
  have h2 : i.toNat < xs.length := by omega
  refine ⟨xs[i.toNat], ?_, List.getElem?_eq_getElem h2⟩
  unfold atI ixN
  rw [if_pos h0, if_pos h1]
  exact List.getElem?_eq_getElem h2
theorem w_ixA {x : V} {xs : List V} {i : Int} (r : Row K H x xs) (h0 : 0 ≤ i) (h1 : i < xs.length) (q : ∀ v, v ∈ xs → xs[i.toNat]? = some v → Q v H) : rIx K x (.int i) H Q := by
  cases r with
  | lst h =>
    obtain ⟨v, e, e2⟩ := atI_get h0 h1
    exact .inl ⟨_, _, _, v, rfl, rfl, h, e, q v (List.mem_of_getElem? e2) e2⟩
  | tup h =>
    obtain ⟨v, e, e2⟩ := atI_get h0 h1
    exact .inr (.inl ⟨_, _, _, v, rfl, rfl, h, e, q v (List.mem_of_getElem? e2) e2⟩)
  | @str z h =>
    have h2 : i < z.cps.toList.length := by simpa [signsV] using h1
    obtain ⟨c, e, e2⟩ := atI_get h0 h2
    have e3 : (signsV z)[i.toNat]? = some (.str ⟨#[c]⟩) := by
      unfold signsV
      rw [List.getElem?_map, e2]
      rfl
    exact .inr (.inr ⟨z, i, c, rfl, rfl, h, e, q _ (List.mem_of_getElem? e3) e3⟩)
end
theorem eqS (a b : List Nat) : decide (V.str (SX.S a) = V.str (SX.S b)) = decide (a = b) := by
  by_cases h : a = b
  · subst h
    simp
  · rw [decide_eq_false h, decide_eq_false fun e => h (SX.S_inj (by injection e))]
/-! ## texts by their codes -/
theorem sx_len (l : List Nat) : (SX.S l).length = l.length := SX.S_len l
theorem cutS_to {l : List Nat} {k : Int} (h : 0 ≤ k) : cutS (SX.S l) none (some k) = SX.S (l.take k.toNat) := (C8.cutS_slice _ _ _).trans (SX.slice_to h)
theorem cutS_from {l : List Nat} {k : Int} (h : 0 ≤ k) : cutS (SX.S l) (some k) none = SX.S (l.drop k.toNat) := (C8.cutS_slice _ _ _).trans (SX.slice_from h)

theorem dpAll_signs {K : PySem.W.Frag} {H : Hp} : ∀ cs : List Nat, DpAll K H (cs.map fun c => V.str ⟨#[c]⟩) (cs.map fun c => PyData.str ⟨#[c]⟩)
  | [] => .nil
  | c :: cs => .cons (.str _) (dpAll_signs cs)
theorem shaped_signs {cs : List Nat} (h : ∀ c ∈ cs, c < 128) : SeqAt.shaped (.list (cs.map fun c => PyData.str ⟨#[c]⟩)) = true := by
  unfold SeqAt.shaped
  rw [Bool.and_eq_true]
  constructor
  · show PyData.canLayAll0 (cs.map fun c => PyData.str ⟨#[c]⟩) = true
    induction cs with
    | nil => rfl
    | cons c cs ih =>
      show (PyData.canLay0 (.str ⟨#[c]⟩) && PyData.canLayAll0 (cs.map fun c => PyData.str ⟨#[c]⟩)) = true
      rw [ih fun d hd => h d (List.mem_cons_of_mem _ hd), Bool.and_true]
      show (#[c] : Array Nat).all (· < 0x110000) = true
      have := h c List.mem_cons_self
      simp
      omega
  · refine decide_eq_true ?_
    show PyData.depthAll (cs.map fun c => PyData.str ⟨#[c]⟩) + 1 ≤ 64
    have e : ∀ l : List Nat, PyData.depthAll (l.map fun c => PyData.str ⟨#[c]⟩) = 0 := fun l => by
      induction l with
      | nil => rfl
      | cons c l ih =>
        show max (PyData.depth (.str ⟨#[c]⟩)) (PyData.depthAll (l.map fun c => PyData.str ⟨#[c]⟩)) = 0
        rw [ih]
        rfl
    rw [e]
    decide
theorem w_neNilS {K : PySem.W.Frag} {H : Hp} {Q : VK} {c q : Addr} {cs : List Nat} (h : H c = some (.lst (cs.map fun c => V.str ⟨#[c]⟩))) (h2 : H q = some (.lst [])) (hs : ∀ c ∈ cs, c < 128) (k : Q (.bl (!decide (cs = []))) H) : rNeD K (.ref c) (.ref q) H Q := by
  refine ⟨.list (cs.map fun c => .str ⟨#[c]⟩), .list [], .lst (SqL.of h) (dpAll_signs cs), .lst (SqL.of h2) .nil, shaped_signs hs, by decide, ?_⟩
  have e : PyData.eqv (.list (cs.map fun c => PyData.str ⟨#[c]⟩)) (.list []) = decide (cs = []) := by
    cases cs with
    | nil => rfl
    | cons n r => rfl
  rw [e]
  exact k
theorem addlen {a b : Str} (ha : a.length ≤ 1000000) (hb : b.length ≤ 1000000) : a.length + b.length ≤ sizeLine := by
  have := sizeLine_eq
  omega
theorem w_mulS {H : Hp} {Q : VK} {z : Str} {n : Int} (h : 2 ≤ n ∧ n ≤ 100000 ∧ 0 < z.length ∧ z.length * n.toNat ≤ sizeLine) (q : Q (.str ⟨(List.replicate n.toNat z.cps).foldl (· ++ ·) #[]⟩) H) : rMulS (.str z) (.int n) H Q := ⟨z, n, rfl, rfl, h, q⟩
/-- data equal to itself -/
theorem w_eqD {K : PySem.W.Frag} {H : Hp} {Q : VK} {x y : V} {d e : PyData} {b : Bool} (hd : Dp K H x d) (he : Dp K H y e) (sd : SeqAt.shaped d = true) (se : SeqAt.shaped e = true) (h : PyData.eqv d e = b) (q : Q (.bl b) H) : rEqD K x y H Q := ⟨d, e, hd, he, sd, se, by rw [h]; exact q⟩
end LB
set_option Elab.async false
set_option linter.all false
set_option maxRecDepth 100000
set_option maxHeartbeats 4000000
namespace PySem
/-- enumerate(v) begins, v told by how its iterator begins -/
theorem lb_meets_enum {u : Value} {o : Obj} {G : Heap → Prop} (B : Begins u o G) :
    Meets (Builtin.«enumerate.__new__» ⟨[.type "enumerate", u], []⟩) (fun _ R sh => G sh.heap ∧
      R (.ok (.ret (.ref (sh.heap.push o).objs.size))) { sh with heap := (sh.heap.push o).push { cls := .type "enumerate", data := .fields #[.none, .bool false, .ref sh.heap.objs.size, rawInt 0, .none, .none] } }) :=
  .of_wp fun prog w A R sh hyp => by
    obtain ⟨hp, g, d, tk, os⟩ := sh
    obtain ⟨g1, hyp⟩ := hyp
    have hsub := sub_enumerate
    have begin_ : ∀ {A' : Around} {E : Value → Shared → Prop} {Q : Value → Shared → Prop}, Q (.ref hp.objs.size) ⟨hp.push o, g, d, tk, os⟩ → wpAny (model prog w) A' (pyIter u) Q E ⟨hp, g, d, tk, os⟩ :=
      fun y => B.iter prog w _ _ ⟨hp, g, d, tk, os⟩ _ g1 y
    wp_walk using begin_
    refine wpAny_stack_any fun _ => wpAny_pure ?_
    split
    · rename_i c _ _ _ _ _
      cases (c == Value.type "enumerate") <;> wp_walk using begin_ <;> exact ⟨_, rfl, hyp⟩
    · wp_walk using begin_
      exact ⟨_, rfl, hyp⟩
section
variable {prog : Program} {w : World} {A : Around} {E : Value → Shared → Prop} {s : Shared}
theorem lb_enum_begins {u : Value} {o : Obj} {G : Heap → Prop} {Q : Value → Shared → Prop} (B : Begins u o G) (g1 : G s.heap)
    (k : ∀ h', IsEnum h' (s.heap.objs.size + 1) s.heap.objs.size 0 .none → h'.get? s.heap.objs.size = some o → h'.objs.size = s.heap.objs.size + 2 →
      (∀ b p, s.heap.get? b = some p → h'.get? b = some p) → Q (.ref (s.heap.objs.size + 1)) { s with heap := h' }) :
    wpAny (model prog w) A (call (.type "enumerate") [u]) Q E s := by
  refine callType_new F.called_enumerate (by decide) (F.typeCall_enumerate_1 _) (F.newCall_enumerate_1 _) (fun ob => F.args_object_init_2 ob _) F.entry_enumerate_new (lb_meets_enum B) ⟨g1, ?_⟩
  have sz : (s.heap.push o).objs.size = s.heap.objs.size + 1 := Heap.size_push ..
  show _ ∧ _
  rw [sz]
  have en : IsEnum ((s.heap.push o).push { cls := .type "enumerate", data := .fields #[.none, .bool false, .ref s.heap.objs.size, rawInt 0, .none, .none] }) (s.heap.objs.size + 1) s.heap.objs.size 0 .none := by
    have y := Heap.get?_push_size (s.heap.push o) (o := { cls := .type "enumerate", data := .fields #[.none, .bool false, .ref s.heap.objs.size, rawInt 0, .none, .none] }) rfl
    rw [sz] at y
    exact y
  exact ⟨⟨_, en, rfl⟩, k _ en (Heap.get?_push_of_some _ (Heap.get?_push_size _ B.free)) (by rw [Heap.size_push, sz]) fun b p x => Heap.get?_push_of_some _ (Heap.get?_push_of_some _ x)⟩
end
end PySem
namespace LB
open PySem PySem.Spec PyProof.Rows L2
/-! ## enumerate over a text, over a tuple -/
/-- the items xs one by one, each in a new pair with its number; S: what holds of the heap at each turn -/
def Itw (S : Hp → Prop) (xs : List V) : It where
  go := fun i H => S H ∧ i < xs.length
  yld := fun i H v H' => ∃ T x, v = .ref T ∧ H T = none ∧ xs[i]? = some x ∧ H' = upd H T (.tup [.int (i : Nat), x])
  stop := fun i H => S H ∧ xs.length ≤ i
theorem turn_enumW {P : Program} {w : World} {K : PySem.W.Frag} {elts : List Expr} {kk : Nat} {tpos : Pos} {xs : List V} {S : Hp → Prop} {e it : Addr} {fpD : List Addr} {PD : Nat → Value → Prop} {St : Nat → Heap → Prop} {Ex : Heap → Prop}
    (D : ∀ A : Around, A.handled = none → Draws P w A it fpD xs.length PD (fun i h => St i h ∧ Ex h))
    (hP : ∀ i u, PD i u → ∃ x, xs[i]? = some x ∧ RelV x u)
    (hS : ∀ (X : Cx) (pins : List (Addr × Obj)) (σ : L2.St) (H : Hp) (s : Shared), X.K = K → Inv X pins σ H s → S H → Ex s.heap)
    (hSt : ∀ i (h h' : Heap), St i h → (∀ o, h.get? it = some o → h'.get? it = some o) → St i h')
    (hobj : ∀ i (h : Heap), St i h → ∃ o, h.get? it = some o ∧ ∀ v, o.data ≠ .cell v) (hne : e ≠ it) (hef : e ∉ fpD) :
    Turn P w K (.Tuple elts kk tpos) (Itw S xs) [e, it] e (fun i h => (∃ old, IsEnum h e it ((i : Nat) : Int) old) ∧ St i h ∧ i ≤ xs.length) where
  mem := by simp
  obj := fun i h st b hb => by
    obtain ⟨⟨old, he⟩, hs, _⟩ := st
    rcases (by simpa using hb : b = e ∨ b = it) with z | z
    · exact ⟨_, by rw [z]; exact he, fun v q => by cases q⟩
    · rw [z]
      exact hobj i h hs
  keep := fun i h h' st k => by
    obtain ⟨⟨old, he⟩, hs, hl⟩ := st
    exact ⟨⟨old, k e (by simp) _ he⟩, hSt i h h' hs (k it (by simp)), hl⟩
  item := by
    intro X eP ew eK hc i pins s σ H E I hf st hg
    subst eP ew
    obtain ⟨⟨old, he⟩, hs, hl⟩ := st
    obtain ⟨hSH, hlt⟩ := hg
    have hh : X.A.handled = none := I.ok.hd hc
    have Di := D X.A.in1 hh
    have lte : e < s.heap.objs.size := Heap.lt_size he
    have lti : it < s.heap.objs.size := by
      obtain ⟨o, y, _⟩ := hobj i _ hs
      exact Heap.lt_size y
    refine wpAny_pyNext_enum_itemD Di he ⟨hs, hS X pins σ H s eK I hSH⟩ hlt hne hef fun y h' tk hy hout hs' hT hsz hk => ?_
    obtain ⟨x, hx, rx⟩ := hP i y hy
    refine ⟨_, rfl, wpAny_letOwnedTupleGo_enum (s := { s with heap := h', toks := tk + 1 }) hout fun h2 he2 sb => ?_⟩
    have hT2 : h2.get? s.heap.objs.size = some { cls := .type "tuple", data := .seq #[.int i tk, y] } := (sb.2 _ (Nat.ne_of_gt lte)).trans hT
    have ok : ObjOk X.prog X.w (upd H s.heap.objs.size (.tup [.int (i : Nat), x])) h2 s.heap.objs.size (.tup [.int (i : Nat), x]) :=
      ⟨by show 2 ≤ sizeLine; rw [sizeLine_eq]; decide, [.int i tk, y], .cons ⟨tk, rfl⟩ (.cons rx .nil), ⟨_, hT2, rfl, _, rfl⟩⟩
    have I2 : Inv X pins σ (upd H s.heap.objs.size (.tup [.int (i : Nat), x])) { s with heap := h2, toks := tk + 1 } :=
      I.turnedNew (ch := [e, it]) (fun b ob hb q => by
        have b1 : b ≠ e := fun z => hb (by rw [z]; simp)
        have b2 : b ≠ it := fun z => hb (by rw [z]; simp)
        exact (sb.2 b b1).trans (hk b ob b1 b2 q)) hf (Nat.le_refl _) ok
    refine ⟨.ref s.heap.objs.size, _, I2, rfl, ⟨_, x, rfl, I.hok.fresh (Nat.le_refl _), hx, rfl⟩, ⟨⟨y, ?_⟩, hSt _ _ _ hs'.1 fun o q => (sb.2 it (Ne.symm hne)).trans q, hlt⟩, fun b hb => ?_⟩
    · rw [show ((i + 1 : Nat) : Int) = (i : Int) + 1 by omega]
      exact he2
    · have lb : b < s.heap.objs.size := by
        rcases (by simpa using hb : b = e ∨ b = it) with z | z <;> rw [z] <;> assumption
      rw [upd_ne (Nat.ne_of_lt lb)]
      exact (hf b hb).1
  done := by
    intro X eP ew eK hc i pins s σ H E I hf st hg
    subst eP ew
    obtain ⟨⟨old, he⟩, hs, hl⟩ := st
    obtain ⟨hSH, hge⟩ := hg
    have ei : i = xs.length := Nat.le_antisymm hl hge
    subst ei
    obtain ⟨f0, f1, f2, f3, f4, f5⟩ := hf it (by simp)
    exact wpAny_pyNext_enum_endD (D X.A.in1 (I.ok.hd hc)) he ⟨hs, hS X pins σ H s eK I hSH⟩ fun h' eb => ⟨rfl, I.turned (t' := s.toks) (fun b o hb q => eb b o hb q) f0 f1 f3 f4 f5⟩
  self := fun A i s Q E st h => by
    obtain ⟨⟨_, he⟩, _⟩ := st
    exact wpAny_pyIter_enum he h
def iEnumS (ta : TA) : TI := fun σ H R => ta σ H fun vs H1 => ∃ z, vs = [.str z] ∧ R (Itw (fun _ => True) (signsV z)) H1
theorem signs_get {z : Str} {i c : Nat} (h : z.cps[i]? = some c) : (signsV z)[i]? = some (.str ⟨#[c]⟩) := by
  unfold signsV
  rw [List.getElem?_map, Array.getElem?_toList, h]
  rfl
theorem pi_enumS {X : Cx} {e : Expr} {ta : TA} {p pos tpos : Pos} {elts : List Expr} {kk : Nat} (hg : Gl X "enumerate") (hm : X.mg "enumerate" = none) (ha : PA X [e] ta)
    (hs : starEach [e] X.env = [(false, eval e X.env)] := by rfl) : PI X (.Tuple elts kk tpos) (.Call (.Name "enumerate" p) [e] [] pos) (iEnumS ta) := by
  refine ⟨fun pins s σ H R I h => ?_⟩
  refine Call_ (ld_blt I hg hm boot_enumerate (PyProof.Rows.callWith_type1 (thn (ha.run pos pins s σ H _ I h) fun us s1 ⟨vs, H1, I1, r1, z, ez, q⟩ => ?_) hs rfl))
  subst ez
  cases r1 with
  | cons r rr =>
    cases rr
    obtain ⟨t, rfl⟩ := r
    refine call_enumerate_str fun h' he hit hsz hk => wpAny_pyIter_enum he ?_
    have I2 : Inv X pins σ H1 { s1 with heap := h' } := I1.kept (t' := s1.toks) hk
    have len : (signsV z).length = z.cps.size := by simp [signsV]
    refine ⟨s1.heap.objs.size + 1, [s1.heap.objs.size + 1, s1.heap.objs.size], _, _, H1, rfl, I2, turn_enumW (xs := signsV z) (fpD := [s1.heap.objs.size]) (PD := fun i v => ∃ c u, z.cps[i]? = some c ∧ v = .str ⟨#[c]⟩ u)
      (St := fun i h => h.IsStrIter s1.heap.objs.size (strIterType z) z t i) (Ex := fun _ => True) (fun A hA => ?_) (fun i u hu => ?_) (fun _ _ _ _ _ _ _ _ => trivial) (fun i h h2 st k => ?_) (fun i h st => ?_) (Nat.succ_ne_self _) ?_, ⟨⟨.none, he⟩, hit, Nat.zero_le _⟩, fun b hb => ?_, q⟩
    · rw [len]
      have D := Draws.text (prog := X.prog) (w := X.w) hA s1.heap.objs.size z t
      exact ⟨fun i h st => D.live i h st.1, fun i h h' st k => ⟨D.frame i h h' st.1 k, trivial⟩, fun i s Q E hi st hQ => D.item i s Q E hi st.1 fun x h' tk a b c => hQ x h' tk a ⟨b, trivial⟩ c, fun s Q E st hE => D.done s Q E st.1 hE⟩
    · obtain ⟨c, u', hc, rfl⟩ := hu
      exact ⟨_, signs_get hc, ⟨u', rfl⟩⟩
    · obtain ⟨o, ho, r⟩ := st
      exact ⟨o, k o ho, r⟩
    · obtain ⟨o, ho, _, hd⟩ := st
      exact ⟨o, ho, fun v y => by rw [hd] at y; cases y⟩
    · simp
    · have hle : s1.heap.objs.size ≤ b := by
        rcases (by simpa using hb : b = s1.heap.objs.size + 1 ∨ b = s1.heap.objs.size) with y | y <;> rw [y]
        · exact Nat.le_succ _
        · exact Nat.le_refl _
      exact I1.fpOk hle (I1.hok.fresh hle)
/-- .. over a tuple -/
def iEnumT (K : PySem.W.Frag) (ta : TA) : TI := fun σ H R => ta σ H fun vs H1 => ∃ a xs, vs = [.ref a] ∧ SqT K H1 a xs ∧ R (Itw (fun H' => SqT K H' a xs) xs) H1
theorem pi_enumT {X : Cx} {e : Expr} {ta : TA} {p pos tpos : Pos} {elts : List Expr} {kk : Nat} (hg : Gl X "enumerate") (hm : X.mg "enumerate" = none) (ha : PA X [e] ta)
    (hs : starEach [e] X.env = [(false, eval e X.env)] := by rfl) : PI X (.Tuple elts kk tpos) (.Call (.Name "enumerate" p) [e] [] pos) (iEnumT X.K ta) := by
  refine ⟨fun pins s σ H R I h => ?_⟩
  refine Call_ (ld_blt I hg hm boot_enumerate (PyProof.Rows.callWith_type1 (thn (ha.run pos pins s σ H _ I h) fun us s1 ⟨vs, H1, I1, r1, a, xs, ez, hq, q⟩ => ?_) hs rfl))
  subst ez
  cases r1 with
  | cons r rr =>
    cases rr
    cases r
    obtain ⟨its, rv, pT, hz⟩ := I1.tuple hq
    refine lb_enum_begins (begins_tuple a its.toArray) pT fun h' he hob hsz hk => wpAny_pyIter_enum he ?_
    have hit : h'.IsTupleIter s1.heap.objs.size a 0 := ⟨_, hob, rfl, rfl⟩
    have I2 : Inv X pins σ H1 { s1 with heap := h' } := I1.kept (t' := s1.toks) hk
    have len : xs.length = its.toArray.size := by rw [rv.length]; simp
    have lta : a < s1.heap.objs.size := by
      obtain ⟨o, y, _⟩ := pT
      exact Heap.lt_size y
    refine ⟨s1.heap.objs.size + 1, [s1.heap.objs.size + 1, s1.heap.objs.size], _, _, H1, rfl, I2, turn_enumW (xs := xs) (fpD := [s1.heap.objs.size, a]) (PD := fun i u => ∃ x, xs[i]? = some x ∧ RelV x u)
      (St := fun i h => h.IsTupleIter s1.heap.objs.size a i) (Ex := fun h => ∃ ys : List Value, Vals xs ys ∧ h.IsTuple a ys.toArray) (fun A hA => ?_) (fun i u hu => hu) (fun X' pins' σ' H' s' eK I' hS' => ?_) (fun i h h2 st k => ?_) (fun i h st => ?_) (Nat.succ_ne_self _) ?_, ⟨⟨.none, he⟩, hit, Nat.zero_le _⟩, fun b hb => ?_, q⟩
    · have D := fun ys : List Value => Draws.tuple (prog := X.prog) (w := X.w) hA s1.heap.objs.size a (Nat.ne_of_lt lta) ys.toArray
      have sz : ∀ {ys : List Value}, Vals xs ys → ys.toArray.size = xs.length := fun r => by
        rw [r.length]
        simp
      refine ⟨fun i h st => ?_, fun i h h' st k => ?_, fun i s Q E hi st hQ => ?_, fun s Q E st hE => ?_⟩
      · obtain ⟨t1, ys, r, t2⟩ := st
        exact (D ys).live i h ⟨t1, t2⟩
      · obtain ⟨t1, ys, r, t2⟩ := st
        obtain ⟨t1', t2'⟩ := (D ys).frame i h h' ⟨t1, t2⟩ k
        exact ⟨t1', ys, r, t2'⟩
      · obtain ⟨t1, ys, r, t2⟩ := st
        refine (D ys).item i s Q E (by rw [sz r]; exact hi) ⟨t1, t2⟩ fun u h' tk a b c => hQ u h' tk ?_ ⟨b.1, ys, r, b.2⟩ c
        obtain ⟨u2, h2, r2⟩ := r.get (List.getElem?_eq_getElem hi)
        have hu : ys[i]? = some u := by
          have a' : ys.toArray[i]? = some u := a
          simpa using a'
        rw [hu] at h2
        cases h2
        exact ⟨_, List.getElem?_eq_getElem hi, r2⟩
      · obtain ⟨t1, ys, r, t2⟩ := st
        refine (D ys).done s Q E ?_ hE
        rw [sz r]
        exact ⟨t1, t2⟩
    · obtain ⟨ys, r, pt, _⟩ := I'.tuple (eK ▸ hS')
      exact ⟨ys, r, pt⟩
    · exact st.at fun o y => k o y
    · obtain ⟨o, ho, _, hd⟩ := st
      exact ⟨o, ho, fun v y => by rw [hd] at y; cases y⟩
    · intro y
      have y2 : s1.heap.objs.size + 1 = a := by simpa using y
      exact absurd lta (by rw [← y2]; exact Nat.not_lt.mpr (Nat.le_succ _))
    · have hle : s1.heap.objs.size ≤ b := by
        rcases (by simpa using hb : b = s1.heap.objs.size + 1 ∨ b = s1.heap.objs.size) with y | y <;> rw [y]
        · exact Nat.le_succ _
        · exact Nat.le_refl _
      exact I1.fpOk hle (I1.hok.fresh hle)
/-! ## what stands behind the top: facts of any kind, defs at any address -/
/-- a def of the text, by its address -/
structure GD where
  ad : PySem.W.Frag → Addr
  nm : Str
  qn : Str
  st : Stmt
  dv : List He.Dv := []
def fnA (K : PySem.W.Frag) (a : Addr) : He.FnW := match K.lookup a with
  | some ⟨_, _, .func z, _⟩ => some (z.name, z.qualname, z.params, z.body, z.scope, z.globals, z.closure, z.builtins)
  | _ => none
def GD.val (d : GD) : He.FnW := some (d.nm, d.qn, defArgs d.st, .stmts (defBody d.st), defScope d.st, mainGlobals, [], builtinsNs)
def GD.dvs (K : PySem.W.Frag) (d : GD) : List V := d.dv.map (He.Dv.v K)
def GD.ok (K : PySem.W.Frag) (d : GD) : Bool := PySem.W.keepIn K (.ref (d.ad K)) && (match K.lookup (d.ad K) with
  | some ⟨_, _, .func z, _⟩ => PySem.W.codeIn K z.code d.qn && (He.dflB K z.defaults (d.dvs K) && He.kwdB K z.kwdefaults [])
  | _ => false)
/-- the def as it stands -/
def FA (K : PySem.W.Frag) (nm qn : Str) (st : Stmt) (dvs : List V) (f : Addr) : Prop := ∃ fd : FuncData, FunD K nm qn (defArgs st) (defBody st) (defScope st) dvs [] f fd
theorem GD.fa {K : PySem.W.Frag} {d : GD} (e : fnA K (d.ad K) = d.val) (c : d.ok K = true) : FA K d.nm d.qn d.st (d.dvs K) (d.ad K) := by
  obtain ⟨kp, c2⟩ := He.ba c
  unfold fnA at e
  cases q : K.lookup (d.ad K) with
  | none =>
    rw [q] at c2
    cases c2
  | some o =>
    obtain ⟨oc, od, dt, osl⟩ := o
    rw [q] at c2 e
    cases dt with
    | func z =>
      obtain ⟨n1, n2, n3, n4, n5, n6, n7, n8, n9, n10, n11, n12, n13, n14, n15⟩ := z
      have e2 : (some (n1, n2, n3, n4, n5, n6, n7, n15) : He.FnW) = some (d.nm, d.qn, defArgs d.st, .stmts (defBody d.st), defScope d.st, mainGlobals, [], builtinsNs) := e
      simp only [Option.some.injEq, Prod.mk.injEq] at e2
      obtain ⟨h1, h2, h3, h4, h5, h6, h7, h8⟩ := e2
      subst h1 h2 h3 h4 h5 h6 h7 h8
      obtain ⟨k1, k2⟩ := He.ba (show (PySem.W.codeIn K n13 d.qn && (He.dflB K n8 (d.dvs K) && He.kwdB K n9 [])) = true from c2)
      obtain ⟨k3, k4⟩ := He.ba k2
      exact ⟨_, ⟨oc, od, n8, n9, n10, n11, n12, n13, n14, osl, rfl, q, k1, He.dflB_ok k3, He.kwdB_ok k4⟩, kp⟩
    | _ => cases c2
abbrev GV : Type := Bool × List He.FnW
def gobs (fs : List (PySem.W.Frag → Bool)) (ds : List GD) (K : PySem.W.Frag) : GV := (fs.all (fun f => f K) && ds.all fun d => d.ok K, ds.map fun d => fnA K (d.ad K))
def gval (ds : List GD) : GV := (true, ds.map GD.val)
def GSays (fs : List (PySem.W.Frag → Bool)) (ds : List GD) (K : PySem.W.Frag) : Prop := gobs fs ds K = gval ds
def gobsG (n : Nat) (fs : List (PySem.W.Frag → Bool)) (ds : List GD) (g : Addr → Option Obj) : GV := gobs fs ds (He.frG g (He.asD g n))
def ghook (n : Nat) (fs : List (PySem.W.Frag → Bool)) (ds : List GD) : PySem.W.Hook where
  α := GV
  val := fun _ => gval ds
  obs := fun sh => gobsG n fs ds sh.heap.get?
  says := fun _ hp => ∃ K : PySem.W.Frag, K.In hp ∧ GSays fs ds K
  of := fun _ _ q => ⟨_, He.frG_in, q⟩
  keeps := fun _ _ _ ⟨K, i, c⟩ q => ⟨K, PySem.W.Frag.In.keeps i q, c⟩
theorem gobsG_eq {n : Nat} {fs : List (PySem.W.Frag → Bool)} {ds : List GD} {g : Addr → Option Obj} {sh : Shared} (h : ∀ a, g a = sh.heap.get? a) : gobsG n fs ds g = (ghook n fs ds).obs sh := by
  obtain rfl : g = sh.heap.get? := funext h
  rfl
section
variable {fs : List (PySem.W.Frag → Bool)} {ds : List GD} {K : PySem.W.Frag}
theorem GSays.fact (c : GSays fs ds K) (i : Nat) {f : PySem.W.Frag → Bool} (h : fs[i]? = some f := by rfl) : f K = true := by
  have e : (fs.all (fun f => f K) && ds.all fun d => d.ok K) = true := congrArg Prod.fst c
  exact List.all_eq_true.mp (He.ba e).1 f (List.mem_of_getElem? h)
theorem GSays.at_ (c : GSays fs ds K) (i : Nat) {d : GD} (h : ds[i]? = some d := by rfl) : FA K d.nm d.qn d.st (d.dvs K) (d.ad K) := by
  have e : (fs.all (fun f => f K) && ds.all fun d => d.ok K) = true := congrArg Prod.fst c
  have e2 : (ds.map fun d => fnA K (d.ad K))[i]? = (ds.map GD.val)[i]? := by rw [show (ds.map fun d => fnA K (d.ad K)) = ds.map GD.val from congrArg Prod.snd c]
  rw [List.getElem?_map, List.getElem?_map, h] at e2
  exact GD.fa (Option.some.inj e2) (List.all_eq_true.mp (He.ba e).2 d (List.mem_of_getElem? h))
end

/-! ## calls: one record a function, wherever it stands; dvs fill up what is not written -/
section
variable (P : Program) (w : World) (K : PySem.W.Frag) (mg : Str → Option Value) (base : Heap)
structure Fr (k : Nat) (f : Addr) (ps : List Str) (dvs : List V) (sp : Sp) : Prop where
  ex : ∃ (fd : FuncData) (ds : List Value), FnOk P w K mg base CX0 k f fd ps sp ∧ Binds K fd ps ds ∧ Vals dvs ds
end
section
variable {P : Program} {w : World} {K : PySem.W.Frag} {mg : Str → Option Value} {base : Heap} {x q : Str} {st : Stmt} {ps N : List Str} {sp : Sp} {k : Nat} {f : Addr} {dvs : List V}
/-- what a body's walk must show -/
def BodyOk (P : Program) (w : World) (K : PySem.W.Frag) (mg : Str → Option Value) (base : Heap) (k : Nat) (q : Str) (st : Stmt) (N : List Str) (sp : Sp) : Prop :=
  ∀ (f : Addr) (cdv : Value) (A : Around) (outer : List Env) (s : Shared) (H : Hp) (vs : List V) (Q : VK) (E : XK), Room k (A.deeper (envOfC q (defScope st) s.heap.objs.size f cdv)) → sp vs H Q E →
    ∃ t, PSs (cxOf CX0 P w K mg base N q (defScope st) f cdv A outer s H E) (defBody st) t ∧ t { nx := fun _ H' => Q .non H', rt := Q } (start N vs) H
/-- no defaults -/
theorem fr_of0 (F : FA K x q st [] f) (hb : ∀ (kV doc pm : Value) (an : Option Addr) (cdv ct : Value) (us : List Value), us.length = ps.length → bindArgs (PySem.W.fnOf x q (defArgs st) (defBody st) (defScope st) .none kV doc pm an cdv ct) ⟨us, []⟩ = pure (ps.zip us))
    (S : FnScope N ps (defScope st)) (len : ∀ vs H Q E, sp vs H Q E → vs.length = ps.length) (hbody : BodyOk P w K mg base k q st N sp) : Fr P w K mg base (k + 1) f ps [] sp := by
  obtain ⟨fd, F⟩ := F
  exact ⟨fd, [], F.ok S len fun cdv A outer s H vs Q E hr h => hbody f cdv A outer s H vs Q E hr h, F.bindsN hb, .nil⟩
/-- the defaults behind the first j fill up: n values are written -/
theorem fr_ofD (n j : Nat) (F : FA K x q st dvs f) (hd : dvs ≠ []) (hn : n + (dvs.length - j) = ps.length)
    (hb : ∀ (T : Addr) (kV doc pm : Value) (an : Option Addr) (cdv ct : Value) (us its : List Value), us.length = n → its.length = dvs.length →
      ∃ k, bindArgs (PySem.W.fnOf x q (defArgs st) (defBody st) (defScope st) (.ref T) kV doc pm an cdv ct) ⟨us, []⟩ = seqItems? (.ref T) >>= k ∧ k (some its.toArray) = pure (ps.zip (us ++ its.drop j)))
    (S : FnScope N ps (defScope st)) (len : ∀ vs H Q E, sp vs H Q E → vs.length = ps.length) (hbody : BodyOk P w K mg base k q st N sp) : Fr P w K mg base (k + 1) f ps (dvs.drop j) sp := by
  obtain ⟨fd, F⟩ := F
  obtain ⟨ds, v, b⟩ := F.binds1 n j hd hn hb
  exact ⟨fd, ds, F.ok S len fun cdv A outer s H vs Q E hr h => hbody f cdv A outer s H vs Q E hr h, b, v⟩
end
section
variable {X : Cx} {k j : Nat} {f C g pr : Addr} {ps : List Str} {dvs : List V} {sp : Sp} {x m : Str} {p pos apos : Pos} {e o : Expr} {es : List Expr} {ta : TE} {t : TA}
theorem pe_f (c : Fr X.prog X.w X.K X.mg X.base k f ps dvs sp) (hm : X.mg x = some (.ref f)) (kp : PySem.W.keepIn X.K (.ref f) = true) (hr : Room j X.A) (hk : k ≤ j) (hg : Gl X x) (ha : PA X (e :: es) t)
    (hdb : (x == ("__debug__" : Str)) = false := by decide) (he : starEach (e :: es) X.env = (false, eval e X.env) :: starEach es X.env := by rfl) (hpl : (backTo pos (starEach es X.env)).any (·.1) = false := by rfl) :
    PE X (.Call (.Name x p) (e :: es) [] pos) (tCall sp dvs E0 t) := by
  obtain ⟨fd, ds, ok, b, v⟩ := c.ex
  exact pe_call ok (hr.mono hk) hg hm kp b v pass0 ha hdb he hpl
theorem pe_mk (c : Fr X.prog X.w X.K X.mg X.base k f ps dvs sp) (M : Mk X.K C f) (hm : X.mg x = some (.ref C)) (hr : Room j X.A) (hk : k + 1 ≤ j) (hg : Gl X x) (ha : PA X (e :: es) t)
    (hdb : (x == ("__debug__" : Str)) = false := by decide) (he : starEach (e :: es) X.env = (false, eval e X.env) :: starEach es X.env := by rfl) (hpl : (backTo pos (starEach es X.env)).any (·.1) = false := by rfl) :
    PE X (.Call (.Name x p) (e :: es) [] pos) (tMake C sp dvs E0 t) := by
  obtain ⟨fd, ds, ok, b, v⟩ := c.ex
  exact pe_make M ok (hr.mono hk) hg hm b v pass0 ha hdb he hpl
theorem pe_mk0 (c : Fr X.prog X.w X.K X.mg X.base k f ps dvs sp) (M : Mk X.K C f) (hm : X.mg x = some (.ref C)) (hr : Room j X.A) (hk : k + 1 ≤ j) (hg : Gl X x)
    (hdb : (x == ("__debug__" : Str)) = false := by decide) : PE X (.Call (.Name x p) [] [] pos) (tMake C sp dvs E0 tNil) := by
  obtain ⟨fd, ds, ok, b, v⟩ := c.ex
  exact pe_make0 M ok (hr.mono hk) hg hm b v pass0 hdb
theorem pe_mt {pl : Sem Bool} (c : Fr X.prog X.w X.K X.mg X.base k f ps dvs sp) (cl : Cls X.K C) (hm : Meth X.K C m f) (hr : Room j X.A) (hk : k ≤ j) (he : PE X o ta) (ha : PA X (e :: es) t)
    (hst : starEach (e :: es) X.env = (false, eval e X.env) :: starEach es X.env := by rfl) (hpl : (backTo pos (starEach es X.env)).any (·.1) = false := by rfl)
    (ht : eval (.Call (.Attribute o m apos) (e :: es) [] pos) X.env = (do
      let ob ← eval o X.env
      standAt apos.atName
      let (fn, first) ← holding [ob] (getMethod ob m pl)
      callWith pos fn first (backTo pos (starEach (e :: es) X.env)) (backToKw pos (keywordEach [] X.env))) := by rfl) :
    PE X (.Call (.Attribute o m apos) (e :: es) [] pos) (tMeth C m sp dvs E0 ta t) := by
  obtain ⟨fd, ds, ok, b, v⟩ := c.ex
  exact pe_meth he cl hm ok (hr.mono hk) b v pass0 ha hst hpl ht
theorem pe_mt0 {pl : Sem Bool} (c : Fr X.prog X.w X.K X.mg X.base k f ps dvs sp) (cl : Cls X.K C) (hm : Meth X.K C m f) (hr : Room j X.A) (hk : k ≤ j) (he : PE X o ta)
    (ht : eval (.Call (.Attribute o m apos) [] [] pos) X.env = (do
      let ob ← eval o X.env
      standAt apos.atName
      let (fn, first) ← holding [ob] (getMethod ob m pl)
      callWith pos fn first (backTo pos (starEach [] X.env)) (backToKw pos (keywordEach [] X.env))) := by rfl) :
    PE X (.Call (.Attribute o m apos) [] [] pos) (tMeth C m sp dvs E0 ta tNil) := by
  obtain ⟨fd, ds, ok, b, v⟩ := c.ex
  exact pe_meth0 he cl hm ok (hr.mono hk) b v pass0 ht
theorem pe_pr (c : Fr X.prog X.w X.K X.mg X.base k g ps dvs sp) (cl : Cls X.K C) (hp : PropOf X.K C m pr g) (hr : Room j X.A) (hk : k + 1 ≤ j) (he : PE X e ta)
    (hab : attributeBase e m X.env (eval e X.env) = eval e X.env := by rfl) : PE X (.Attribute e m pos) (tProp C sp dvs E0 ta) := by
  obtain ⟨fd, ds, ok, b, v⟩ := c.ex
  exact pe_prop he cl hp ok (hr.mono hk) b v pass0 hab
end
/-! ## one of several rules, chosen by the reading -/
section
variable {X : Cx} {ι : Type}
theorem pe_some {e : Expr} {t : ι → TE} (h : ∀ i, PE X e (t i)) : PE X e (fun σ H Q => ∃ i, t i σ H Q) := ⟨fun pins s σ H Q I ⟨i, q⟩ => (h i).run pins s σ H Q I q⟩
theorem pi_some {tg e : Expr} {t : ι → TI} (h : ∀ i, PI X tg e (t i)) : PI X tg e (fun σ H R => ∃ i, t i σ H R) := ⟨fun pins s σ H R I ⟨i, q⟩ => (h i).run pins s σ H R I q⟩
def tAny (t : ι → TE) : TE := fun σ H Q => ∃ i, t i σ H Q
def iAny (t : ι → TI) : TI := fun σ H R => ∃ i, t i σ H R
theorem pe_any {e : Expr} {t : ι → TE} (h : ∀ i, PE X e (t i)) : PE X e (tAny t) := pe_some h
theorem pi_any {tg e : Expr} {t : ι → TI} (h : ∀ i, PI X tg e (t i)) : PI X tg e (iAny t) := pi_some h
end
/-! ## list(text); an instance called; str(instance) -/
section
variable {X : Cx}
def rListS : List V → Hp → VK → Prop := fun xs H Q => ∃ z, xs = [.str z] ∧ z.length ≤ sizeLine ∧ ∀ l, H l = none → Q (.ref l) (upd H l (.lst (signsV z)))
theorem cl_listS (hc : X.calm = true) : CallR X (.type "list") rListS := by
  intro pins s σ H xs us Q I r h
  obtain ⟨z, rfl, hz, q⟩ := h
  obtain ⟨u, rfl, t, rfl⟩ := vals1 r
  refine PySem.call_list_str (I.ok.hd hc) z t (fun h' tk acc c hk hS hacc => ?_) hz
  have len : (signsV z).length = z.cps.size := by simp [signsV]
  refine ⟨.ref s.heap.objs.size, upd H s.heap.objs.size (.lst (signsV z)), I.laid hk (Nat.le_refl _) (show ObjOk X.prog X.w _ _ _ (.lst (signsV z)) from ⟨by rw [len]; exact hz, acc.toList, c, ?_, hS⟩), rfl, q _ (I.hok.fresh (Nat.le_refl _))⟩
  refine vals_of_at (by rw [len]; simp [hacc.1]) fun j x w h1 h2 => ?_
  obtain ⟨c', u', hc', rfl⟩ := hacc.2 j w (by rw [← Array.getElem?_toList]; exact h2)
  rw [signs_get hc'] at h1
  cases h1
  exact ⟨u', rfl⟩
end
/-- C's instances are called by the def at f -/
structure CallOf (K : PySem.W.Frag) (C f : Addr) : Prop where
  at_ : PySem.W.findIn K (.ref C) "__call__" = some (some (.ref f))
  fn : PySem.W.isFn K (.ref f) = true
  fi : PySem.W.fnIn K f = true
/-- str(o) of C's instances is the def at f -/
structure StrBy (K : PySem.W.Frag) (C f : Addr) : Prop where
  at_ : PySem.W.findIn K (.ref C) "__str__" = some (some (.ref f))
  fn : PySem.W.isFn K (.ref f) = true
section
open PySem.W PySem.Calls
variable {M : Model} {A : Around} {E : Value → Shared → Prop} {s : Shared} {pos : Pos} {x C : Addr} {first : List Value} {Q : Value → Shared → Prop}
theorem inst_callWith {args : List (Bool × Sem Value)} {kws : List (Option Str × Sem Value)} (hp : (args.any (·.1) || kws.any (·.1.isNone)) = false)
    (h : wpAny M A (evalArgs (.ref x) true args kws) (fun a s1 => (∃ dx od, InstAt s1.heap x (instObj C dx) C od) ∧ wpAny M A (call (.ref x) (first ++ a.pos) a.kw) Q E s1) E s) : wpAny M A (callWith pos (.ref x) first args kws) Q E s := by
  unfold callWith
  refine wpAny_bind (wpAny_holding (wpAny_mono h (fun a s1 ⟨⟨dx, od, J⟩, hc⟩ => wpAny_bind (wpAny_standAt ?_)) fun _ _ y => y))
  have L := kco_keeper (M := M) J rfl
  simp only [hp]
  refine wpAny_bind (L.here ?_)
  have fin : ∀ {t : Sem Value}, wpAny M A t Q E s1 → wpAny M A (t >>= fun r => holding [r] point >>= fun _ => pure r) Q E s1 :=
    fun ht => wpAny_bind (wpAny_mono ht (fun r _ hr => wpAny_bind (wpAny_holding (wpAny_point (wpAny_pure hr)))) fun _ _ y => y)
  exact fin (wpAny_operateT hc)
end
/-- o(e, ..), o an instance of C -/
def tInst (C : Addr) (sp : Sp) (dvs : List V) (ta : TE) (t : TA) : TE := fun σ H Q => ta σ H fun x H1 => ∃ a, x = .ref a ∧ t σ H1 fun vs H2 => (∃ dx fs, H2 a = some (.ins C dx fs)) ∧ sp (.ref a :: (vs ++ dvs)) H2 Q E0
/-- o(k = e, ..) -/
def tInstN (C : Addr) (n : Nat) (sp : Sp) (gV : List V → List V) (ta : TE) (tk : TA) : TE := fun σ H Q => ta σ H fun x H1 => ∃ a, x = .ref a ∧ tk σ H1 fun zs H2 => zs.length = n ∧ (∃ dx fs, H2 a = some (.ins C dx fs)) ∧ sp (.ref a :: gV zs) H2 Q E0
section
variable {X : Cx} {k j n : Nat} {f C : Addr} {ps ks : List Str} {dvs : List V} {sp : Sp} {pos : Pos} {e o : Expr} {es : List Expr} {ta : TE} {t tk : TA} {kws : List Keyword}
theorem run_inst {pins : List (Addr × Obj)} {σ : L2.St} {H : Hp} {s : Shared} {Q : VK} {us : List Value} {vs : List V} {kw : List (Str × Value)} {x : Addr} {fd : FuncData} {wv : List Value} {dx : Addr} {fs : List (Str × V)} (F : FnOk X.prog X.w X.K X.mg X.base CX0 k f fd ps sp) (hr : Room k X.A) (c : CallOf X.K C f)
    (I : Inv X pins σ H s) (ha : H x = some (.ins C dx fs)) (hb : BindsTo s fd ⟨.ref x :: us, kw⟩ (ps.zip wv)) (r : Vals vs wv) (h : sp vs H Q E0) : wpAny (model X.prog X.w) X.A (call (.ref x) us kw) (EP X pins σ Q) X.xe s := by
  obtain ⟨mA, O, _, _, _, _⟩ := ins_get I.hok ha
  obtain ⟨od, J, _⟩ := O.look
  refine wpAny_call (PySem.W.kco_code I.kIn J rfl c.at_ c.fn c.fi (codeAny_mono (F.run X.A X.stack s H ⟨.ref x :: us, kw⟩ wv vs Q E0 hr I.env0 hb r h) fun r s' hq => ?_))
  cases r with
  | error e => exact pass0 pins σ H s e s' I hq
  | ok fl =>
    cases fl with
    | ret u => exact I.after hq
    | next => exact False.elim hq
    | brk => exact False.elim hq
    | cont => exact False.elim hq
theorem inst_at {pins : List (Addr × Obj)} {σ : L2.St} {H : Hp} {s : Shared} {x : Addr} (I : Inv X pins σ H s) (h : ∃ dx fs, H x = some (.ins C dx fs)) : ∃ dx od, PySem.W.InstAt s.heap x (PySem.W.instObj C dx) C od := by
  obtain ⟨dx, fs, ha⟩ := h
  obtain ⟨mA, O, _, _, _, _⟩ := ins_get I.hok ha
  obtain ⟨od, J, _⟩ := O.look
  exact ⟨dx, some od, J⟩
theorem pe_ci (c : Fr X.prog X.w X.K X.mg X.base k f ps dvs sp) (cl : CallOf X.K C f) (hr : Room j X.A) (hk : k ≤ j) (he : PE X o ta) (ha : PA X (e :: es) t)
    (ht : eval (.Call o (e :: es) [] pos) X.env = (eval o X.env >>= fun fn => callWith pos fn [] (backTo pos (starEach (e :: es) X.env)) (backToKw pos (keywordEach [] X.env))) := by rfl)
    (hst : starEach (e :: es) X.env = (false, eval e X.env) :: starEach es X.env := by rfl) (hpl : (backTo pos (starEach es X.env)).any (·.1) = false := by rfl) : PE X (.Call o (e :: es) [] pos) (tInst C sp dvs ta t) := by
  obtain ⟨fd, ds, ok, b, v⟩ := c.ex
  refine ⟨fun pins s σ H Q I h => ?_⟩
  rw [ht]
  refine wpAny_bind (thn (he.run pins s σ H _ I h) fun u s1 ⟨x, H1, I1, rx, a, ex, q⟩ => ?_)
  subst ex
  obtain rfl : u = Value.ref a := rx
  have lp : ((backTo pos (starEach (e :: es) X.env)).any (·.1) || (backToKw pos (keywordEach [] X.env)).any (·.1.isNone)) = false := by
    rw [hst]
    show ((false || (backTo pos (starEach es X.env)).any (·.1)) || false) = false
    rw [hpl]
    rfl
  refine inst_callWith (C := C) lp ?_
  have hrun := thn (ha.run pos pins s1 σ H1 _ I1 q) fun us s2 ⟨vs, H2, I2, r, hi, q2⟩ => (show (∃ dx od, PySem.W.InstAt s2.heap a (PySem.W.instObj C dx) C od) ∧ wpAny (model X.prog X.w) X.A (call (.ref a) us) (EP X pins σ Q) X.xe s2 from by
    refine ⟨inst_at I2 hi, ?_⟩
    obtain ⟨dx, fs, hi⟩ := hi
    have r2 : Vals (.ref a :: (vs ++ dvs)) (.ref a :: (us ++ ds)) := .cons rfl (r.append v)
    have hl : ((Value.ref a :: us) ++ ds).length = ps.length := by
      rw [← ok.len _ _ _ _ q2]
      exact r2.length.symm
    exact run_inst ok (hr.mono hk) cl I2 hi (b s2 (.ref a :: us) I2.kIn hl) r2 q2)
  rw [hst] at hrun ⊢
  exact PySem.Calls.evalArgs_plain hrun
/-- keywords alone, all parameters given: gV puts them in order -/
theorem pe_ciN {fd : FuncData} {g : List Value → List Value} {gV : List V → List V} (ok : FnOk X.prog X.w X.K X.mg X.base CX0 k f fd ps sp) (cl : CallOf X.K C f) (hr : Room j X.A) (hk : k ≤ j) (he : PE X o ta) (hkw : PK X kws tk)
    (hb : ∀ (s : Shared) (self : Value) (ws : List Value), X.K.In s.heap → ws.length = ks.length → BindsTo s fd ⟨[self], ks.zip ws⟩ (ps.zip (self :: g ws))) (hg : ∀ {zs : List V} {ws : List Value}, Vals zs ws → Vals (gV zs) (g ws))
    (hall : (backToKw pos (keywordEach kws X.env)).all (·.1.isSome) = true := by rfl) (hks : (backToKw pos (keywordEach kws X.env)).filterMap (·.1) = ks := by rfl)
    (ht : eval (.Call o [] kws pos) X.env = (eval o X.env >>= fun fn => callWith pos fn [] (backTo pos (starEach [] X.env)) (backToKw pos (keywordEach kws X.env))) := by rfl)
    (hpl : ((backTo pos (starEach [] X.env)).any (·.1) || (backToKw pos (keywordEach kws X.env)).any (·.1.isNone)) = false := by rfl) : PE X (.Call o [] kws pos) (tInstN C ks.length sp gV ta tk) := by
  refine ⟨fun pins s σ H Q I h => ?_⟩
  rw [ht]
  refine wpAny_bind (thn (he.run pins s σ H _ I h) fun u s1 ⟨x, H1, I1, rx, a, ex, q⟩ => ?_)
  subst ex
  obtain rfl : u = Value.ref a := rx
  refine inst_callWith (C := C) hpl (PyProof.Rows.evalArgs_kw2_nil hall (thn (hkw.run pos pins s1 σ H1 _ I1 q) fun ws s2 ⟨zs, H2, I2, rz, hl, hi, q2⟩ => ⟨inst_at I2 hi, ?_⟩))
  obtain ⟨dx, fs, hi⟩ := hi
  rw [hks]
  exact run_inst ok (hr.mono hk) cl I2 hi (hb s2 (.ref a) ws I2.kIn (by rw [← hl]; exact rz.length.symm)) (.cons (show RelV (.ref a) (Value.ref a) from rfl) (hg rz)) q2
end
/-! ## generator defs -/
section
variable (P : Program) (w : World) (K : PySem.W.Frag) (mg : Str → Option Value) (base : Heap)
structure Gn (k : Nat) (x : Str) (st : Stmt) (ps : List Str) (sp : SpG) : Prop where
  ex : ∃ (f : Addr) (fd : FuncData), GFn P w K mg base k f fd ps sp ∧ mg x = some (.ref f) ∧ PySem.W.keepIn K (.ref f) = true ∧ Binds K fd ps []
end
theorem gn_of {P : Program} {w : World} {K : PySem.W.Frag} {mg : Str → Option Value} {base : Heap} {x : Str} {st : Stmt} {ps N : List Str} {sp : SpG} {k : Nat} (F : FD K mg x st)
    (hb : ∀ (kV doc pm : Value) (an : Option Addr) (cdv ct : Value) (us : List Value), us.length = ps.length → bindArgs (PySem.W.fnOf x x (defArgs st) (defBody st) (defScope st) .none kV doc pm an cdv ct) ⟨us, []⟩ = pure (ps.zip us))
    (S : GScope N ps (defScope st)) (len : ∀ vs H Q E, sp vs H Q E → vs.length = ps.length)
    (hbody : ∀ (f : Addr) (cdv : Value) (A : Around) (outer : List Env) (s : Shared) (H : Hp) (vs : List V) (Q : List V → Hp → Prop) (E : XK) (pn : List (Addr × Obj)), Room k (A.deeper (envOfC x (defScope st) s.heap.objs.size f cdv)) → sp vs H Q E →
      ∃ t, GSs (gcxOf P w K mg base N x (defScope st) f cdv A outer s H E pn) (defBody st) t ∧ t { nx := fun ys _ H' => Q ys H', rt := fun ys v H' => v = .non ∧ Q ys H' } [] (start N vs) H) : Gn P w K mg base (k + 1) x st ps sp := by
  obtain ⟨f, fd, F, g⟩ := F
  have b := F.bindsN hb
  have kp := F.kp
  obtain ⟨oc, od, dV, kV, doc, pm, an, cdv, ct, osl, rfl, lk, hcd, _, _⟩ := F.ex
  exact ⟨f, _, gfn_of lk hcd S len fun A outer s H vs Q E pn hr h => hbody f cdv A outer s H vs Q E pn hr h, g, kp, b⟩
theorem passCX0 {X : Cx} : Passes (CX X.prog X.w) X E0 := fun _ _ _ _ _ _ _ ⟨_, _, _, _, _, _, _, _, _, _, _, _, z⟩ => z.elim
section
variable {X : Cx} {k j : Nat} {x : Str} {st : Stmt} {ps : List Str} {sp : SpG} {p p1 pos pos1 : Pos} {e : Expr} {es : List Expr} {t : TA}
/-- list(f(e, ..)), f a generator def -/
theorem pe_gl (c : Gn X.prog X.w X.K X.mg X.base k x st ps sp) (hr : Room j X.A) (hk : k + 3 ≤ j) (hg : Gl X x) (hl : Gl X "list") (hm : X.mg "list" = none) (ha : PA X (e :: es) t)
    (hdb : (x == ("__debug__" : Str)) = false := by decide) (he : starEach (e :: es) X.env = (false, eval e X.env) :: starEach es X.env := by rfl) (hpl : (backTo pos1 (starEach es X.env)).any (·.1) = false := by rfl)
    (he1 : starEach [.Call (.Name x p1) (e :: es) [] pos1] X.env = (false, eval (.Call (.Name x p1) (e :: es) [] pos1) X.env) :: starEach [] X.env := by rfl) :
    PE X (.Call (.Name "list" p) [.Call (.Name x p1) (e :: es) [] pos1] [] pos) (tListG (tCallG sp [] E0 t)) := by
  obtain ⟨f, fd, ok, g, kp, b⟩ := c.ex
  exact pe_listG (pgen_call ok (hr.mono (by omega)) hg g kp b .nil ha hdb he hpl) passCX0 (fun _ _ _ z => z.elim) (hr.mono hk) hl hm rfl (he := he1)
end
/-! ## steps -/
theorem Fr.imp {P : Program} {w : World} {K : PySem.W.Frag} {mg : Str → Option Value} {base : Heap} {k : Nat} {f : Addr} {ps : List Str} {dvs : List V} {sp sp' : Sp} (F : Fr P w K mg base k f ps dvs sp) (h : ∀ vs H Q E, sp' vs H Q E → sp vs H Q E) : Fr P w K mg base k f ps dvs sp' := by
  obtain ⟨fd, ds, ok, b, v⟩ := F.ex
  exact ⟨fd, ds, ⟨fun vs H Q E q => ok.len vs H Q E (h vs H Q E q), fun A outer s H args us vs Q E hr e0 hb r q => ok.run A outer s H args us vs Q E hr e0 hb r (h vs H Q E q)⟩, b, v⟩
theorem Fr.lev {P : Program} {w : World} {K : PySem.W.Frag} {mg : Str → Option Value} {base : Heap} {k j : Nat} {f : Addr} {ps : List Str} {dvs : List V} {sp : Sp} (F : Fr P w K mg base k f ps dvs sp) (h : k ≤ j) : Fr P w K mg base j f ps dvs sp := by
  obtain ⟨fd, ds, ok, b, v⟩ := F.ex
  exact ⟨fd, ds, ⟨ok.len, fun A outer s H args us vs Q E hr e0 hb r q => ok.run A outer s H args us vs Q E (hr.mono h) e0 hb r q⟩, b, v⟩
section
variable {K : PySem.W.Frag} {D : Ends} {σ : L2.St} {H : Hp} {Q : VK} {ta tv te : TE} {t : TA} {u : TS} {a C dx : Addr} {fs : List (Str × V)} {f m : Str} {v : V} {sp : Sp} {dvs : List V}
theorem w_fld (q : ta σ H fun x H1 => ∃ a C dx fs v, x = .ref a ∧ H1 a = some (.ins C dx fs) ∧ Cls K C ∧ NoAttr K C f ∧ fs.lookup f = some v ∧ Q v H1) : tFld K ta f σ H Q := q
theorem w_fldAt {P : V → Prop} (h : H a = some (.ins C dx fs)) (c : Cls K C) (n : NoAttr K C f) (l : fs.lookup f = some v) (q : P v) :
    ∃ a' C' dx' fs' v', V.ref a = .ref a' ∧ H a' = some (.ins C' dx' fs') ∧ Cls K C' ∧ NoAttr K C' f ∧ fs'.lookup f = some v' ∧ P v' := ⟨a, C, dx, fs, v, rfl, h, c, n, l, q⟩
theorem w_con (q : ta σ H fun x H1 => ∃ a C dx fs v u, x = .ref a ∧ H1 a = some (.ins C dx fs) ∧ Cls K C ∧ Con K C f v u ∧ fs.lookup f = none ∧ Q v H1) : tCon K ta f σ H Q := q
theorem w_conAt {P : V → Prop} (h : H a = some (.ins C dx fs)) (c : Cls K C) (n : ∃ u, Con K C f v u) (l : fs.lookup f = none) (q : P v) :
    ∃ a' C' dx' fs' v' u, V.ref a = .ref a' ∧ H a' = some (.ins C' dx' fs') ∧ Cls K C' ∧ Con K C' f v' u ∧ fs'.lookup f = none ∧ P v' := let ⟨u, n⟩ := n; ⟨a, C, dx, fs, v, u, rfl, h, c, n, l, q⟩
theorem w_sFld (q : tv σ H fun y H1 => ta σ H1 fun x H2 => ∃ a C dx fs, x = .ref a ∧ H2 a = some (.ins C dx fs) ∧ Cls K C ∧ NoAttr K C f ∧ fs.length < 1000 ∧ D.nx σ (upd H2 a (.ins C dx (putF f y fs)))) : sFld K ta tv f D σ H := q
theorem w_seqF (q : sFld K ta tv f { D with nx := u D } σ H) : tSeq (sFld K ta tv f) u D σ H := q
theorem w_sFldAt {P : Hp → Prop} (h : H a = some (.ins C dx fs)) (c : Cls K C) (n : NoAttr K C f) (l : fs.length < 1000) {gs : List (Str × V)} (e : putF f v fs = gs) (q : P (upd H a (.ins C dx gs))) :
    ∃ a' C' dx' fs', V.ref a = .ref a' ∧ H a' = some (.ins C' dx' fs') ∧ Cls K C' ∧ NoAttr K C' f ∧ fs'.length < 1000 ∧ P (upd H a' (.ins C' dx' (putF f v fs'))) := ⟨a, C, dx, fs, rfl, h, c, n, l, by rw [e]; exact q⟩
theorem w_meth {E : XK} (q : ta σ H fun x H1 => ∃ a dx fs, x = .ref a ∧ H1 a = some (.ins C dx fs) ∧ fs.lookup m = none ∧ t σ H1 fun vs H2 => sp (x :: (vs ++ dvs)) H2 Q E) : tMeth C m sp dvs E ta t σ H Q := q
theorem w_methAt {P : Prop} (h : H a = some (.ins C dx fs)) (l : fs.lookup m = none) (q : P) : ∃ a' dx' fs', V.ref a = .ref a' ∧ H a' = some (.ins C dx' fs') ∧ fs'.lookup m = none ∧ P := ⟨a, dx, fs, rfl, h, l, q⟩
theorem w_prop {E : XK} (q : ta σ H fun x H1 => ∃ a dx fs, x = .ref a ∧ H1 a = some (.ins C dx fs) ∧ sp (.ref a :: dvs) H1 Q E) : tProp C sp dvs E ta σ H Q := q
theorem w_propAt {P : Addr → Prop} (h : H a = some (.ins C dx fs)) (q : P a) : ∃ a' dx' fs', V.ref a = .ref a' ∧ H a' = some (.ins C dx' fs') ∧ P a' := ⟨a, dx, fs, rfl, h, q⟩
theorem w_make {E : XK} (q : t σ H fun vs H1 => ∀ x dx, H1 x = none → H1 dx = none → dx ≠ x → sp (.ref x :: (vs ++ dvs)) (upd (upd H1 dx (.own x)) x (.ins C dx [])) (fun v H2 => v = .non ∧ Q (.ref x) H2) E) : tMake C sp dvs E t σ H Q := q
theorem w_dget {td ty : TE} (q : td σ H fun x H1 => ty σ H1 fun y H2 => ∃ a v, x = .ref a ∧ DGet H2 a y (some v) ∧ Q v H2) : tDGet td ty σ H Q := q
theorem w_din {td ty : TE} (q : ty σ H fun y H1 => td σ H1 fun x H2 => ∃ a o, x = .ref a ∧ DGet H2 a y o ∧ Q (.bl o.isSome) H2) : tDIn ty td σ H Q := q
theorem w_dnotin {td ty : TE} (q : ty σ H fun y H1 => td σ H1 fun x H2 => ∃ a o, x = .ref a ∧ DGet H2 a y o ∧ Q (.bl (!o.isSome)) H2) : tDNotIn ty td σ H Q := q
theorem w_dput {td ty : TE} (q : tv σ H fun v H1 => td σ H1 fun x H2 => ty σ H2 fun y H3 => ∃ a H4, x = .ref a ∧ DPut H3 a y v H4 ∧ D.nx σ H4) : sDPut td ty tv D σ H := q
theorem w_seqD {td ty : TE} (q : sDPut td ty tv { D with nx := u D } σ H) : tSeq (sDPut td ty tv) u D σ H := q
theorem w_gTup {n : Nat} {tg : TGs} {xs : List V} {R : L2.St → Hp → Prop} (h : H a = some (.tup xs)) (l : xs.length = n) (q : tg xs σ H R) : gTup K n tg (.ref a) σ H R := ⟨a, xs, rfl, SqT.of h, l, q⟩
theorem w_gCons {g : TG} {gs : TGs} {r : List V} {R : L2.St → Hp → Prop} (q : g v σ H fun σ' H' => gs r σ' H' R) : gCons g gs (v :: r) σ H R := ⟨v, r, rfl, q⟩
theorem w_gNil {R : L2.St → Hp → Prop} (q : R σ H) : gNil [] σ H R := ⟨rfl, q⟩
theorem putF_one {fs : List (Str × V)} : putF f v [] = [(f, v)] := rfl
end
theorem same_two {H : Hp} {x dx : Addr} {o u : HO} (h1 : H x = none) (h2 : H dx = none) : Same H (upd (upd H dx o) x u) := fun b w hb => by
  rw [upd_ne (ne_of_none hb h1), upd_ne (ne_of_none hb h2)]
  exact hb
/-- a walk over fixed items, each in a new pair -/
theorem for_itw {S : Hp → Prop} {xs : List V} {g : TG} {tb : TS} {D : Ends} {σ : L2.St} {H : Hp} (Pv : Nat → L2.St → Hp → Prop) (h0 : Pv 0 σ H) (hS : ∀ i σ H, Pv i σ H → S H)
    (hs : ∀ i x T σ H, xs[i]? = some x → Pv i σ H → H T = none → g (.ref T) σ (upd H T (.tup [.int (i : Nat), x])) fun σ2 H2 => tb { D with nx := Pv (i + 1), ct := Pv (i + 1), bk := D.nx } σ2 H2)
    (hd : ∀ σ H, Pv xs.length σ H → D.nx σ H) :
    ∃ W : Nat → Nat → L2.St → Hp → Prop, (∃ m, W 0 m σ H) ∧ ∀ i m σ H, W i m σ H →
      ((Itw S xs).stop i H ∧ D.nx σ H) ∨ ((Itw S xs).go i H ∧ ∃ N : L2.St → Hp → Prop, (∀ σ' H', N σ' H' → ∃ m', m' < m ∧ W (i + 1) m' σ' H') ∧ ∀ x H', (Itw S xs).yld i H x H' → g x σ H' fun σ2 H2 => tb { D with nx := N, ct := N, bk := D.nx } σ2 H2) := by
  refine ⟨fun i m σ H => m = xs.length - i ∧ i ≤ xs.length ∧ Pv i σ H, ⟨xs.length, by simp, Nat.zero_le _, h0⟩, ?_⟩
  rintro i m σ H ⟨rfl, hi, p⟩
  by_cases hlt : i < xs.length
  · refine .inr ⟨⟨hS i σ H p, hlt⟩, Pv (i + 1), fun σ' H' p' => ⟨xs.length - (i + 1), by omega, rfl, hlt, p'⟩, fun x H' y => ?_⟩
    obtain ⟨T, x', rfl, hT, hx, rfl⟩ := y
    exact hs i x' T σ H hx p hT
  · have e : i = xs.length := by omega
    subst e
    exact .inl ⟨⟨hS _ σ H p, Nat.le_refl _⟩, hd σ H p⟩
/-- {k: v for i, x in enumerate(list)} -/
theorem dc_ite {K : PySem.W.Frag} {a : Addr} {xs : List V} {g : TG} {tt : TT} {tk tv : TE} {vs : List Nat} {σ : L2.St} {H1 : Hp} {D : Addr} {Qd : Hp → Prop} (Pv : Nat → Hp → Prop) (h0 : Pv 0 (upd H1 D (.dK []))) (hl : ∀ i H, Pv i H → SqL K H a xs)
    (hs : ∀ i x T H, xs[i]? = some x → Pv i H → H T = none → g (.ref T) (wipe σ vs) (upd H T (.tup [.int (i : Nat), x])) fun σ2 H2 => wipe σ2 vs = wipe σ vs ∧ tt σ2 H2 fun b H3 =>
      if b = true then tk σ2 H3 fun y H4 => tv σ2 H4 fun z H5 => ∃ kvs k, y = kV k ∧ H5 D = some (.dK kvs) ∧ kvs.length < sizeLine ∧ Pv (i + 1) (upd H5 D (.dK (putK kvs k z))) else Pv (i + 1) H3) (hd : ∀ H, Pv xs.length H → Qd H) :
    ∃ W : Nat → Nat → Hp → Prop, (∃ m, W 0 m (upd H1 D (.dK []))) ∧ ∀ i m H, W i m H →
      ((Ite K a).stop i H ∧ Qd H) ∨ ((Ite K a).go i H ∧ ∃ Nx : Hp → Prop, (∀ H', Nx H' → ∃ m', m' < m ∧ W (i + 1) m' H') ∧ ∀ x H', (Ite K a).yld i H x H' → g x (wipe σ vs) H' fun σ2 H2 => wipe σ2 vs = wipe σ vs ∧ tt σ2 H2 fun b H3 =>
        if b = true then tk σ2 H3 fun y H4 => tv σ2 H4 fun z H5 => ∃ kvs k, y = kV k ∧ H5 D = some (.dK kvs) ∧ kvs.length < sizeLine ∧ Nx (upd H5 D (.dK (putK kvs k z))) else Nx H3) := by
  refine ⟨fun i m H => m = xs.length - i ∧ i ≤ xs.length ∧ Pv i H, ⟨xs.length, by simp, Nat.zero_le _, h0⟩, ?_⟩
  rintro i m H ⟨rfl, hi, p⟩
  have q := hl i H p
  by_cases hlt : i < xs.length
  · refine .inr ⟨⟨xs, xs[i], q, List.getElem?_eq_getElem hlt⟩, Pv (i + 1), fun H' p' => ⟨xs.length - (i + 1), by omega, rfl, hlt, p'⟩, fun x H' y => ?_⟩
    obtain ⟨T, x', rfl, hT, rfl, hx⟩ := y
    exact hs i x' T H (hx xs q) p hT
  · have e : i = xs.length := by omega
    subst e
    exact .inl ⟨⟨xs, q, Nat.le_refl _⟩, hd H p⟩
/-- a class by its name -/
theorem pe_gc {X : Cx} {x : Str} {C : Addr} {pos : Pos} (hg : Gl X x) (h : X.mg x = some (.ref C)) (hd : (x == ("__debug__" : Str)) = false := by decide) : PE X (.Name x pos) (tC (.ref C)) :=
  pe_gv hg ⟨_, h, rfl⟩ hd
/-- one of two rules -/
def tTwo (t u : TE) : TE := fun σ H Q => t σ H Q ∨ u σ H Q
def iTwo (t u : TI) : TI := fun σ H R => t σ H R ∨ u σ H R
theorem pe_two {X : Cx} {e : Expr} {t u : TE} (h1 : PE X e t) (h2 : PE X e u) : PE X e (tTwo t u) := ⟨fun pins s σ H Q I q => q.elim (fun q => h1.run pins s σ H Q I q) fun q => h2.run pins s σ H Q I q⟩
theorem pi_two {X : Cx} {tg e : Expr} {t u : TI} (h1 : PI X tg e t) (h2 : PI X tg e u) : PI X tg e (iTwo t u) := ⟨fun pins s σ H R I q => q.elim (fun q => h1.run pins s σ H R I q) fun q => h2.run pins s σ H R I q⟩
/-! ## an instance called with keywords; str(o) of an own instance; f-strings -/
section
variable (P : Program) (w : World) (K : PySem.W.Frag) (mg : Str → Option Value) (base : Heap)
/-- the def at f, called with the instance and the keywords ks -/
structure FrN (k : Nat) (f : Addr) (ps ks : List Str) (sp : Sp) : Prop where
  ex : ∃ fd : FuncData, FnOk P w K mg base CX0 k f fd ps sp ∧ ∀ (s : Shared) (self : Value) (ws : List Value), K.In s.heap → ws.length = ks.length → BindsTo s fd ⟨[self], ks.zip ws⟩ (ps.zip (self :: ws))
end
theorem frn_of {P : Program} {w : World} {K : PySem.W.Frag} {mg : Str → Option Value} {base : Heap} {x q : Str} {st : Stmt} {ps ks N : List Str} {sp : Sp} {k : Nat} {f : Addr} (F : FA K x q st [] f)
    (hb : ∀ (kV doc pm : Value) (an : Option Addr) (cdv ct self : Value) (ws : List Value), ws.length = ks.length → bindArgs (PySem.W.fnOf x q (defArgs st) (defBody st) (defScope st) .none kV doc pm an cdv ct) ⟨[self], ks.zip ws⟩ = pure (ps.zip (self :: ws)))
    (S : FnScope N ps (defScope st)) (len : ∀ vs H Q E, sp vs H Q E → vs.length = ps.length) (hbody : BodyOk P w K mg base k q st N sp) : FrN P w K mg base (k + 1) f ps ks sp := by
  obtain ⟨fd, F⟩ := F
  have ok := F.ok S len fun cdv A outer s H vs Q E hr h => hbody f cdv A outer s H vs Q E hr h
  obtain ⟨oc, od, dV, kV, doc, pm, an, cdv, ct, osl, rfl, lk, hcd, hD, hK⟩ := F.ex
  rcases hD with ⟨_, rfl⟩ | ⟨e, _⟩
  · exact ⟨_, ok, fun s self ws _ hl => .of_eq (hb kV doc pm an cdv ct self ws hl)⟩
  · exact absurd rfl e
theorem pe_cN {X : Cx} {k j : Nat} {f C : Addr} {ps ks : List Str} {sp : Sp} {pos : Pos} {o : Expr} {ta : TE} {tk : TA} {kws : List Keyword} (c : FrN X.prog X.w X.K X.mg X.base k f ps ks sp) (cl : CallOf X.K C f) (hr : Room j X.A) (hk : k ≤ j) (he : PE X o ta) (hkw : PK X kws tk)
    (hall : (backToKw pos (keywordEach kws X.env)).all (·.1.isSome) = true := by rfl) (hks : (backToKw pos (keywordEach kws X.env)).filterMap (·.1) = ks := by rfl)
    (ht : eval (.Call o [] kws pos) X.env = (eval o X.env >>= fun fn => callWith pos fn [] (backTo pos (starEach [] X.env)) (backToKw pos (keywordEach kws X.env))) := by rfl)
    (hpl : ((backTo pos (starEach [] X.env)).any (·.1) || (backToKw pos (keywordEach kws X.env)).any (·.1.isNone)) = false := by rfl) : PE X (.Call o [] kws pos) (tInstN C ks.length sp (fun zs => zs) ta tk) := by
  obtain ⟨fd, ok, hb⟩ := c.ex
  exact pe_ciN (g := fun ws => ws) (gV := fun zs => zs) ok cl hr hk he hkw hb (fun r => r) hall hks ht hpl
/-- the same def at a smaller promise -/
theorem FrN.lev {P : Program} {w : World} {K : PySem.W.Frag} {mg : Str → Option Value} {base : Heap} {k j : Nat} {f : Addr} {ps ks : List Str} {sp : Sp} (F : FrN P w K mg base k f ps ks sp) (h : k ≤ j) : FrN P w K mg base j f ps ks sp := by
  obtain ⟨fd, ok, b⟩ := F.ex
  exact ⟨fd, ⟨ok.len, fun A outer s H args us vs Q E hr e0 hb r q => ok.run A outer s H args us vs Q E (hr.mono h) e0 hb r q⟩, b⟩
/-! ### str(o), o an instance with its own __str__ -/
theorem cl_strObj {X : Cx} {k j : Nat} {f C : Addr} {sp : Sp} (c : Fr X.prog X.w X.K X.mg X.base k f ["self"] [] sp) (b : StrBy X.K C f) (hr : Room j X.A) (hk : k + 2 ≤ j) :
    CallR X (.type "str") (fun xs H Q => ∃ a dx fs, xs = [.ref a] ∧ H a = some (.ins C dx fs) ∧ sp [.ref a] H (fun v H' => ∃ z, v = .str z ∧ Q v H') E0) := by
  intro pins s σ H xs us Q I r h
  obtain ⟨a, dx, fs, rfl, ha, q⟩ := h
  obtain ⟨u, rfl, ru⟩ := vals1 r
  obtain rfl : u = Value.ref a := ru
  obtain ⟨fd, ds, ok, bd, v⟩ := c.ex
  cases v
  obtain ⟨mA, O, _, _, _, _⟩ := ins_get I.hok ha
  obtain ⟨od, J, _⟩ := O.look
  have hr2 : Room k X.A.in1.in1 := (show Room (k + 1 + 1) X.A from hr.mono hk).in1.in1
  refine PySem.W.kso_call hr2.units0 I.kIn J b.at_ b.fn ?_
  refine wpAny_call (codeAny_mono (ok.run X.A.in1.in1 X.stack s H ⟨[.ref a], []⟩ [.ref a] [.ref a] _ E0 hr2 I.env0.in1.in1 (bd s [.ref a] I.kIn rfl) (.cons rfl .nil) q) fun r s' hq => ?_)
  cases r with
  | error e => exact False.elim hq
  | ok fl =>
    cases fl with
    | ret u =>
      obtain ⟨v, H', I', rv, z, rfl, q'⟩ := I.after hq
      obtain ⟨t, rfl⟩ := rv
      exact ⟨.str z, H', I', ⟨t, rfl⟩, q'⟩
    | next => exact False.elim hq
    | brk => exact False.elim hq
    | cont => exact False.elim hq

/-- f'..' of some parts -/
def tJoined (ts : List TE) : TE := fun σ H Q => tJs ts Str.empty σ H fun out H1 => Q (.str out) H1
theorem pe_joinedT {X : Cx} {v1 v2 : Expr} {rest : List Expr} {ts : List TE} {pos : Pos} (h : PJ X (v1 :: v2 :: rest) ts) : PE X (.JoinedStr (v1 :: v2 :: rest) pos) (tJoined ts) := pe_joined h
section
variable {σ : L2.St} {H : Hp} {Q : VK} {ta : TE} {t tk : TA} {C : Addr} {sp : Sp} {dvs : List V} {gV : List V → List V} {n : Nat}
theorem w_inst (q : ta σ H fun x H1 => ∃ a, x = .ref a ∧ t σ H1 fun vs H2 => (∃ dx fs, H2 a = some (.ins C dx fs)) ∧ sp (.ref a :: (vs ++ dvs)) H2 Q E0) : tInst C sp dvs ta t σ H Q := q
theorem w_instN (q : ta σ H fun x H1 => ∃ a, x = .ref a ∧ tk σ H1 fun zs H2 => zs.length = n ∧ (∃ dx fs, H2 a = some (.ins C dx fs)) ∧ sp (.ref a :: gV zs) H2 Q E0) : tInstN C n sp gV ta tk σ H Q := q
theorem w_instAt {a : Addr} {P : Addr → Prop} (q : P a) : ∃ a', V.ref a = .ref a' ∧ P a' := ⟨a, rfl, q⟩
theorem w_joined {ts : List TE} (q : tJs ts Str.empty σ H fun out H1 => Q (.str out) H1) : tJoined ts σ H Q := q
theorem w_js {t : TE} {ts : List TE} {acc : Str} {R : Str → Hp → Prop} (q : t σ H fun x H1 => ∃ y : Str, x = .str y ∧ (acc ++ y).length ≤ sizeLine ∧ tJs ts (acc ++ y) σ H1 R) : tJs (t :: ts) acc σ H R := q
theorem w_js0 {acc : Str} {R : Str → Hp → Prop} (q : R acc H) : tJs [] acc σ H R := q
theorem w_jsAt {acc y : Str} {P : Str → Prop} (h : (acc ++ y).length ≤ sizeLine) (q : P y) : ∃ z : Str, V.str y = .str z ∧ (acc ++ z).length ≤ sizeLine ∧ P z := ⟨y, rfl, h, q⟩
theorem w_fmt {te : TE} (q : te σ H fun x H1 => (∃ y : Str, x = .str y ∧ y.length ≤ sizeLine ∧ Q (.str y) H1) ∨ ∃ i : Int, x = .int i ∧ i.natAbs.log2 < 1920 ∧ Q (.str (toString i)) H1) : tFmt te σ H Q := q
theorem w_fmtS {y : Str} {B : Prop} (h : y.length ≤ sizeLine) (q : Q (.str y) H) : (∃ z : Str, V.str y = .str z ∧ z.length ≤ sizeLine ∧ Q (.str z) H) ∨ B := .inl ⟨y, rfl, h, q⟩
theorem w_fmtI {i : Int} {B : Prop} (h : i.natAbs.log2 < 1920) (q : Q (.str (toString i)) H) : B ∨ ∃ z : Int, V.int i = .int z ∧ z.natAbs.log2 < 1920 ∧ Q (.str (toString z)) H := .inr ⟨i, rfl, h, q⟩
end
/-- {o} in an f-string: C's instances are told by the def at f -/
structure FmtBy (K : PySem.W.Frag) (C f : Addr) : Prop where
  at_ : PySem.W.findIn K (.ref C) "__str__" = some (some (.ref f))
  fn : PySem.W.isFn K (.ref f) = true
  fm : PySem.W.findIn K (.ref C) "__format__" = some (some (.builtin "object.__format__"))
  mro : PySem.W.mroIn K C (.type "object") = some true
def tFmtO (C : Addr) (sp : Sp) (te : TE) : TE := fun σ H Q => te σ H fun x H1 => ∃ a dx fs, x = .ref a ∧ H1 a = some (.ins C dx fs) ∧ sp [.ref a] H1 (fun v H' => ∃ z, v = .str z ∧ Q v H') E0
theorem pe_fmtO {X : Cx} {k j : Nat} {f C : Addr} {sp : Sp} {e : Expr} {te : TE} {pos : Pos} (c : Fr X.prog X.w X.K X.mg X.base k f ["self"] [] sp) (b : FmtBy X.K C f) (hr : Room j X.A) (hk : k + 1 ≤ j) (he : PE X e te) : PE X (.FormattedValue e (-1) none pos) (tFmtO C sp te) := by
  refine ⟨fun pins s σ H Q I h => ?_⟩
  refine wpAny_FormattedValue_plain (thn (he.run pins s σ H _ I h) fun u s1 hv => ?_)
  obtain ⟨x, H1, I1, ru, a, dx, fs, rfl, ha, q⟩ := hv
  obtain rfl : u = Value.ref a := ru
  obtain ⟨fd, ds, ok, bd, v⟩ := c.ex
  cases v
  obtain ⟨mA, O, _, _, _, _⟩ := ins_get I1.hok ha
  obtain ⟨od, J, _⟩ := O.look
  have hr2 : Room k X.A.in1 := (show Room (k + 1) X.A from hr.mono hk).in1
  have I2 := I1.tok (s1.toks + 1)
  refine PySem.W.kfo_fieldS hr2.units0 I1.kIn J b.fm b.mro b.at_ b.fn ?_
  refine wpAny_call (codeAny_mono (ok.run X.A.in1 X.stack _ H1 ⟨[.ref a], []⟩ [.ref a] [.ref a] _ E0 hr2 I2.env0.in1 (bd _ [.ref a] I2.kIn rfl) (.cons rfl .nil) q) fun r s' hq => ?_)
  cases r with
  | error e => exact False.elim hq
  | ok fl =>
    cases fl with
    | ret u =>
      obtain ⟨v, H', I', rv, z, rfl, q'⟩ := I2.after hq
      obtain ⟨t, rfl⟩ := rv
      exact ⟨.str z, H', I', ⟨t, rfl⟩, q'⟩
    | next => exact False.elim hq
    | brk => exact False.elim hq
    | cont => exact False.elim hq
theorem w_fmtO {σ : L2.St} {H : Hp} {Q : VK} {C : Addr} {sp : Sp} {te : TE} (q : te σ H fun x H1 => ∃ a dx fs, x = .ref a ∧ H1 a = some (.ins C dx fs) ∧ sp [.ref a] H1 (fun v H' => ∃ z, v = .str z ∧ Q v H') E0) : tFmtO C sp te σ H Q := q
end LB
set_option Elab.async false
set_option linter.all false
set_option maxRecDepth 100000
set_option maxHeartbeats 4000000
namespace LB
open PySem PySem.Spec PyProof.Rows L2
/-! ## operators of own classes -/
/-- C's instances have m as the def at f -/
structure SpecOf (K : PySem.W.Frag) (C : Addr) (m : Str) (f : Addr) : Prop where
  at_ : PySem.W.findIn K (.ref C) m = some (some (.ref f))
  fn : PySem.W.isFn K (.ref f) = true
section
variable {X : Cx} {k j : Nat} {f C : Addr} {ps : List Str} {dvs : List V} {sp : Sp}
theorem run_own {pins : List (Addr × Obj)} {σ : L2.St} {H : Hp} {s : Shared} {Q : VK} {us : List Value} {vs : List V} (c : Fr X.prog X.w X.K X.mg X.base k f ps [] sp) (hr : Room j X.A) (hk : k ≤ j) (I : Inv X pins σ H s) (r : Vals vs us) (h : sp vs H Q E0) :
    wpAny (model X.prog X.w) X.A (call (.ref f) us) (EP X pins σ Q) X.xe s := by
  obtain ⟨fd, ds, ok, bd, v⟩ := c.ex
  cases v
  have hl : (us ++ []).length = ps.length := by
    rw [List.append_nil, ← r.length]
    exact ok.len _ _ _ _ h
  have b := bd s us I.kIn hl
  rw [List.append_nil] at b
  refine wpAny_call (codeAny_mono (ok.run X.A X.stack s H ⟨us, []⟩ us vs Q E0 (hr.mono hk) I.env0 b r h) fun r s' hq => ?_)
  cases r with
  | error e => exact False.elim (show False from hq)
  | ok fl =>
    cases fl with
    | ret u => exact I.after hq
    | next => exact False.elim hq
    | brk => exact False.elim hq
    | cont => exact False.elim hq
def rInO (C : Addr) (sp : Sp) : R2 := fun x y H Q => ∃ a dx fs, y = .ref a ∧ H a = some (.ins C dx fs) ∧ sp [.ref a, x] H (fun v H' => ∃ t, v = .bl t ∧ Q (.bl t) H') E0
theorem op_inO (c : Fr X.prog X.w X.K X.mg X.base k f ps [] sp) (b : SpecOf X.K C "__contains__" f) (hr : Room j X.A) (hk : k ≤ j) : OpR X (compareOp .In) (rInO C sp) := by
  intro pins s σ H x y v u Q I rx ry h
  obtain ⟨a, dx, fs, rfl, ha, q⟩ := h
  obtain rfl : u = Value.ref a := ry
  obtain ⟨mA, O, _, _, _, _⟩ := ins_get I.hok ha
  obtain ⟨od, J, _⟩ := O.look
  obtain ⟨m, F⟩ := I.fr
  refine PySem.W.in_K F I.ok.mod.kin J b.at_ b.fn (thn (run_own c hr hk I (.cons (show RelV (.ref a) (Value.ref a) from rfl) (.cons rx .nil)) q) fun r s' hq => ?_)
  obtain ⟨w, H', I', rw_, t, rfl, q'⟩ := hq
  obtain rfl : r = Value.bool t := rw_
  exact wpAny_truthy_bool ⟨.bl t, H', I', rfl, q'⟩
def rItO (C : Addr) (sp : Sp) : R2 := fun x y H Q => ∃ a dx fs, x = .ref a ∧ H a = some (.ins C dx fs) ∧ sp [.ref a, y] H Q E0
theorem pe_ixO {e i : Expr} {te ti : TE} {pos : Pos} (c : Fr X.prog X.w X.K X.mg X.base k f ps [] sp) (b : SpecOf X.K C "__getitem__" f) (fi : PySem.W.fnIn X.K f = true) (hr : Room j X.A) (hk : k + 1 ≤ j) (he : PE X e te) (hi : PE X i ti)
    (hsl : ∀ v u, subscripted i true v u = runValue (.builtin "lifetime.subscript" ⟨[v, u], []⟩) := by intro _ _; with_unfolding_all rfl) : PE X (.Subscript e i pos) (tOp (rItO C sp) te ti) := by
  refine ⟨fun pins s σ H Q I h => ?_⟩
  refine Subscript_ (binT he hi I h fun v u s2 x y H2 I2 rx ry q => ?_)
  obtain ⟨a, dx, fs, rfl, ha, q⟩ := q
  obtain rfl : v = Value.ref a := rx
  obtain ⟨mA, O, _, _, _, _⟩ := ins_get I2.hok ha
  obtain ⟨od, J, _⟩ := O.look
  obtain ⟨m, F⟩ := I2.fr
  obtain ⟨fd, ds, ok, bd, vd⟩ := c.ex
  cases vd
  have r2 : Vals [.ref a, y] [Value.ref a, u] := .cons (show RelV (.ref a) (Value.ref a) from rfl) (.cons ry .nil)
  have hl : ([Value.ref a, u] ++ []).length = ps.length := (ok.len _ _ _ _ q)
  have hr2 : Room k X.A.in1 := (show Room (k + 1) X.A from hr.mono hk).in1
  refine PySem.W.sub_K F I2.ok.mod.kin J b.at_ fi b.fn ?_ (hsl _ _)
  refine wpAny_call (codeAny_mono (ok.run X.A.in1 X.stack s2 H2 ⟨[.ref a, u], []⟩ [.ref a, u] [.ref a, y] Q E0 hr2 I2.env0.in1 (bd s2 [.ref a, u] I2.kIn hl) r2 q) fun r s' hq => ?_)
  cases r with
  | error e => exact False.elim (show False from hq)
  | ok fl =>
    cases fl with
    | ret u => exact I2.after hq
    | next => exact False.elim hq
    | brk => exact False.elim hq
    | cont => exact False.elim hq
end
/-! int op o, by o's reflected method -/
structure ROpOf (K : PySem.W.Frag) (C : Addr) (nm : String) (f : Addr) : Prop where
  fwd : PySem.W.findIn K (.ref C) (PySem.dunder nm) = some none
  rev : PySem.W.findIn K (.ref C) (dunderR nm) = some (some (.ref f))
  fn : PySem.W.isFn K (.ref f) = true
  self : PySem.W.selfFirst K C = true
  sub : PySem.W.subIn K (.ref C) (.type "int") = some false
section
open PySem.W
variable {M : Model} {K : Frag} {C f : Addr} {nm : String} {h : Heap}
theorem fills_rev (X : K.In h) (r : ROpOf K C nm f) : Looks M h (fillsNumberSlot (.ref C) nm) true := by
  intro A Q E s k q
  obtain ⟨cd, rest, hcd, hm⟩ := ksp_first r.self
  obtain ⟨hh, g, d, tt, os⟩ := s
  have X' : K.In hh := X.keeps k
  have Y1 : Looks M hh (typeLookup (.ref C) (PySem.dunder nm)) none := looks_findIn X' r.fwd
  have Y2 : Looks M hh (typeLookup (.ref C) (dunderR nm)) (some (.ref f)) := looks_findIn X' r.rev
  have Y0 : Looks M hh (mroOf (.ref C)) (.ref C :: rest) := by
    have := (looks_clsIn (M := M) X' hcd).andThen (f := fun c => pure c.mro) (b := .ref C :: rest) (by rw [hm]; exact .now)
    exact this
  unfold fillsNumberSlot
  repeat lk
  exact q
end
section
open PySem.W
variable {prog : Program} {w : World} {A : Around} {E : Value → Shared → Prop} {s : Shared} {K : Frag} {x C f : Addr} {ox : Obj} {od : Option Obj} {n : Int} {t : Tok}
theorem asInt_no {M : Model} {h : Heap} (J : InstAt h x ox C od) (hd : ox.data = .plain) : Looks M h (asInt? (.ref x)) none := by
  have z : Looks M h (load x) ox := Looks.ld J.at_
  refine z.andThen ?_
  rw [hd]
  exact .now
theorem int_div_no {Q : Value → Shared → Prop} (J : InstAt s.heap x ox C od) (hd : ox.data = .plain) (q : Q .notImplemented s) : wpAny (model prog w) A (call (.builtin "int.__floordiv__") [.int n t, .ref x]) Q E s := by
  refine wpAny_call_entry PySem.F.slot_int_floordiv (typeIs_int s n t) PySem.F.entry_int_floordiv ?_ (PySem.F.args_int_floordiv_2 _ _)
  obtain ⟨hh, g, d, tt, os⟩ := s
  have Y0 : Looks (model prog w) hh (asInt? (.ref x)) none := asInt_no J hd
  unfold Builtin.«int.__floordiv__» Builtin.exactOperandsForPylong
  repeat lk
  refine wpAny_load J.at_ ?_
  rw [hd]
  repeat lk
  exact ⟨_, rfl, q⟩
theorem try_div_no {Q : Option Value → Shared → Prop} (J : InstAt s.heap x ox C od) (hd : ox.data = .plain) (q : Q none s) : wpAny (model prog w) A (tryMethod (.int n t) (PySem.dunder "floordiv") (.ref x)) Q E s := by
  have c1 : wpAny (model prog w) A (call (.builtin "int.__floordiv__") [.int n t, .ref x]) (fun v s' => v = .notImplemented ∧ Q none s') E s := int_div_no J hd ⟨rfl, q⟩
  have t1 : s.TypeIs (.int n t) "int" := typeIs_int s n t
  have l1 : Slot "int" (PySem.dunder "floordiv") "int.__floordiv__" := PySem.F.slot_int_floordiv
  generalize PySem.dunder "floordiv" = nm at l1 ⊢
  exact wpAny_tryMethod_declines t1 l1 c1
theorem bin_rdiv {Q : Value → Shared → Prop} (X : K.In s.heap) (J : InstAt s.heap x ox C od) (hd : ox.data = .plain) (r : ROpOf K C "floordiv" f) (h : wpAny (model prog w) A (call (.ref f) [.ref x, .int n t]) (PySem.W.CmpBack Q) E s) :
    wpAny (model prog w) A (binaryOp .FloorDiv (.int n t) (.ref x)) Q E s := by
  have one := ksp_try X J r.rev r.fn h
  obtain ⟨hh, g, d, tt, os⟩ := s
  have Z1 : Looks (model prog w) hh (typeOf (.int n t)) (.type "int") := Looks.of_pure rfl
  have Z2 : Looks (model prog w) hh (typeOf (.ref x)) (.ref C) := J.type
  have Z3 : Looks (model prog w) hh (fillsNumberSlot (.type "int") "floordiv") true := Looks.of_pure PySem.F.fills_int_floordiv
  have Z4 : Looks (model prog w) hh (fillsNumberSlot (.ref C) "floordiv") true := fills_rev X r
  have Z5 : Looks (model prog w) hh (isSubtype (.ref C) (.type "int")) false := looks_subIn X r.sub
  have Z6 : Looks (model prog w) hh (numberSlotInPython (.type "int") "floordiv") false := Looks.of_pure rfl
  have hne : (Value.type "int" == Value.ref C) = false := Bool.eq_false_iff.mpr fun q => by cases beq_iff_eq.mp q
  simp only [binaryOp, Operator.info]
  refine wpAny_holding (wpAny_bind ?_)
  unfold binaryOp1
  refine wpAny_bind (Z1.at (wpAny_bind (Z2.at ?_)))
  refine wpAny_bind (Z3.at ?_)
  simp only [hne, Bool.false_eq_true, if_false]
  ksp_lk
  refine try_div_no J hd ?_
  generalize dunderR "floordiv" = rn at one ⊢
  ksp_lk
  refine wpAny_mono one (fun r s' hr' => ?_) fun _ _ e => e
  obtain ⟨v, rfl, hq⟩ := hr'
  ksp_lk
  exact hq
theorem int_mod_no {Q : Value → Shared → Prop} (J : InstAt s.heap x ox C od) (hd : ox.data = .plain) (q : Q .notImplemented s) : wpAny (model prog w) A (call (.builtin "int.__mod__") [.int n t, .ref x]) Q E s := by
  refine wpAny_call_entry PySem.F.slot_int_mod (typeIs_int s n t) PySem.F.entry_int_mod ?_ (PySem.F.args_int_mod_2 _ _)
  obtain ⟨hh, g, d, tt, os⟩ := s
  have Y0 : Looks (model prog w) hh (asInt? (.ref x)) none := asInt_no J hd
  unfold Builtin.«int.__mod__»
  repeat lk
  refine wpAny_load J.at_ ?_
  rw [hd]
  repeat lk
  exact ⟨_, rfl, q⟩
theorem try_mod_no {Q : Option Value → Shared → Prop} (J : InstAt s.heap x ox C od) (hd : ox.data = .plain) (q : Q none s) : wpAny (model prog w) A (tryMethod (.int n t) (PySem.dunder "mod") (.ref x)) Q E s := by
  have c1 : wpAny (model prog w) A (call (.builtin "int.__mod__") [.int n t, .ref x]) (fun v s' => v = .notImplemented ∧ Q none s') E s := int_mod_no J hd ⟨rfl, q⟩
  have t1 : s.TypeIs (.int n t) "int" := typeIs_int s n t
  have l1 : Slot "int" (PySem.dunder "mod") "int.__mod__" := PySem.F.slot_int_mod
  generalize PySem.dunder "mod" = nm at l1 ⊢
  exact wpAny_tryMethod_declines t1 l1 c1
theorem bin_rmod {Q : Value → Shared → Prop} (X : K.In s.heap) (J : InstAt s.heap x ox C od) (hd : ox.data = .plain) (r : ROpOf K C "mod" f) (h : wpAny (model prog w) A (call (.ref f) [.ref x, .int n t]) (PySem.W.CmpBack Q) E s) :
    wpAny (model prog w) A (binaryOp .Mod (.int n t) (.ref x)) Q E s := by
  have one := ksp_try X J r.rev r.fn h
  obtain ⟨hh, g, d, tt, os⟩ := s
  have Z1 : Looks (model prog w) hh (typeOf (.int n t)) (.type "int") := Looks.of_pure rfl
  have Z2 : Looks (model prog w) hh (typeOf (.ref x)) (.ref C) := J.type
  have Z3 : Looks (model prog w) hh (fillsNumberSlot (.type "int") "mod") true := Looks.of_pure PySem.F.fills_int_mod
  have Z4 : Looks (model prog w) hh (fillsNumberSlot (.ref C) "mod") true := fills_rev X r
  have Z5 : Looks (model prog w) hh (isSubtype (.ref C) (.type "int")) false := looks_subIn X r.sub
  have Z6 : Looks (model prog w) hh (numberSlotInPython (.type "int") "mod") false := Looks.of_pure rfl
  have hne : (Value.type "int" == Value.ref C) = false := Bool.eq_false_iff.mpr fun q => by cases beq_iff_eq.mp q
  simp only [binaryOp, Operator.info]
  refine wpAny_holding (wpAny_bind ?_)
  unfold binaryOp1
  refine wpAny_bind (Z1.at (wpAny_bind (Z2.at ?_)))
  refine wpAny_bind (Z3.at ?_)
  simp only [hne, Bool.false_eq_true, if_false]
  ksp_lk
  refine try_mod_no J hd ?_
  generalize dunderR "mod" = rn at one ⊢
  ksp_lk
  refine wpAny_mono one (fun r s' hr' => ?_) fun _ _ e => e
  obtain ⟨v, rfl, hq⟩ := hr'
  ksp_lk
  exact hq
end
section
variable {X : Cx} {k j : Nat} {f C : Addr} {ps : List Str} {sp : Sp}
def rRO (C : Addr) (sp : Sp) : R2 := fun x y H Q => ∃ a dx fs n, x = .int n ∧ y = .ref a ∧ H a = some (.ins C dx fs) ∧ sp [.ref a, .int n] H (fun v H' => ∃ i, v = .int i ∧ Q v H') E0
theorem op_rdiv (c : Fr X.prog X.w X.K X.mg X.base k f ps [] sp) (b : ROpOf X.K C "floordiv" f) (hr : Room j X.A) (hk : k ≤ j) : OpR X (binaryOp .FloorDiv) (rRO C sp) := by
  intro pins s σ H x y v u Q I rx ry h
  obtain ⟨a, dx, fs, n, rfl, rfl, ha, q⟩ := h
  obtain rfl : u = Value.ref a := ry
  obtain ⟨t, rfl⟩ := rx
  obtain ⟨mA, O, _, _, _, _⟩ := ins_get I.hok ha
  obtain ⟨od, J, _⟩ := O.look
  refine bin_rdiv I.kIn J rfl b (thn (run_own c hr hk I (.cons (show RelV (.ref a) (Value.ref a) from rfl) (.cons (show RelV (.int n) (Value.int n t) from ⟨t, rfl⟩) .nil)) q) fun r s' hq => ?_)
  obtain ⟨w, H', I', rw_, i, rfl, q'⟩ := hq
  obtain ⟨t', rfl⟩ := rw_
  exact ⟨.int i, H', I', ⟨t', rfl⟩, q'⟩
theorem op_rmod (c : Fr X.prog X.w X.K X.mg X.base k f ps [] sp) (b : ROpOf X.K C "mod" f) (hr : Room j X.A) (hk : k ≤ j) : OpR X (binaryOp .Mod) (rRO C sp) := by
  intro pins s σ H x y v u Q I rx ry h
  obtain ⟨a, dx, fs, n, rfl, rfl, ha, q⟩ := h
  obtain rfl : u = Value.ref a := ry
  obtain ⟨t, rfl⟩ := rx
  obtain ⟨mA, O, _, _, _, _⟩ := ins_get I.hok ha
  obtain ⟨od, J, _⟩ := O.look
  refine bin_rmod I.kIn J rfl b (thn (run_own c hr hk I (.cons (show RelV (.ref a) (Value.ref a) from rfl) (.cons (show RelV (.int n) (Value.int n t) from ⟨t, rfl⟩) .nil)) q) fun r s' hq => ?_)
  obtain ⟨w, H', I', rw_, i, rfl, q'⟩ := hq
  obtain ⟨t', rfl⟩ := rw_
  exact ⟨.int i, H', I', ⟨t', rfl⟩, q'⟩
/-- C.m(e), m a classmethod -/
theorem pe_cmt {e o : Expr} {es : List Expr} {m : Str} {mc : Value} {p : Addr} {pos apos : Pos} {ta : TE} {t : TA} {pl : Sem Bool} (c : Fr X.prog X.w X.K X.mg X.base k f ps [] sp) (r : ClX.CRead X.K C mc) (cm : ClX.CMet X.K C mc m p f) (hr : Room j X.A) (hk : k ≤ j) (he : PE X o ta) (ha : PA X (e :: es) t)
    (hst : starEach (e :: es) X.env = (false, eval e X.env) :: starEach es X.env := by rfl) (hpl : (backTo pos (starEach es X.env)).any (·.1) = false := by rfl)
    (ht : eval (.Call (.Attribute o m apos) (e :: es) [] pos) X.env = (do
      let ov ← eval o X.env
      standAt apos.atName
      let (g, first) ← holding [ov] (getMethod ov m pl)
      callWith pos g first (backTo pos (starEach (e :: es) X.env)) (backToKw pos (keywordEach [] X.env))) := by rfl) :
    PE X (.Call (.Attribute o m apos) (e :: es) [] pos) (ClX.tCMeth C sp E0 ta t) := by
  obtain ⟨fd, ds, ok, b, v⟩ := c.ex
  have F := (FnOk.raw ok b v).imp (sp' := sp) fun vs H Q E h => by
    rw [List.append_nil]
    exact h
  exact ClX.pe_cmeth he r cm F (hr.mono hk) pass0 ha hst hpl ht
end
end LB
set_option Elab.async false
set_option linter.all false
set_option maxRecDepth 100000
set_option maxHeartbeats 4000000
namespace LB
open PySem PySem.Spec PyProof.Rows L2 StX
/-! ## comprehensions over what makes a new pair each turn: enumerate, zip -/
structure PairIt (J : It) (H1 : Hp) (ps : List (V × V)) : Prop where
  go : ∀ H', Same H1 H' → ∀ i, i < ps.length → J.go i H'
  stop : ∀ H', Same H1 H' → ∀ i, ps.length ≤ i → J.stop i H'
  yld : ∀ H', Same H1 H' → ∀ i x H'', i < ps.length → J.yld i H' x H'' → ∃ T p, x = .ref T ∧ H' T = none ∧ ps[i]? = some p ∧ H'' = upd H' T (.tup [p.1, p.2])
section
variable {K : PySem.W.Frag} {H1 : Hp} {σ : L2.St} {Q : VK}
theorem pairIt_enum {a : Addr} {xs : List V} (h : SqL K H1 a xs) : PairIt (Ite K a) H1 (xs.zipIdx.map fun p => (.int ((p.2 : Nat) : Int), p.1)) where
  go := fun H' e i hi => by
    rw [List.length_map, List.length_zipIdx] at hi
    exact ⟨xs, xs[i], e.seq h, List.getElem?_eq_getElem hi⟩
  stop := fun H' e i hi => by
    rw [List.length_map, List.length_zipIdx] at hi
    exact ⟨xs, e.seq h, hi⟩
  yld := fun H' e i x H'' hi y => by
    obtain ⟨T, v, rfl, hT, rfl, hx⟩ := y
    refine ⟨T, (.int ((i : Nat) : Int), v), rfl, hT, ?_, rfl⟩
    rw [List.getElem?_map, List.getElem?_zipIdx, hx xs (e.seq h)]
    simp
theorem pairIt_zip {a b : Addr} {xs ys : List V} (h : SqL K H1 a xs) (h2 : SqL K H1 b ys) : PairIt (Itz K a b) H1 (xs.zip ys) where
  go := fun H' e i hi => by
    rw [List.length_zip] at hi
    exact ⟨xs, ys, xs[i]'(by omega), ys[i]'(by omega), e.seq h, e.seq h2, List.getElem?_eq_getElem _, List.getElem?_eq_getElem _⟩
  stop := fun H' e i hi => by
    rw [List.length_zip] at hi
    exact ⟨xs, ys, e.seq h, e.seq h2, by omega⟩
  yld := fun H' e i x H'' hi y => by
    obtain ⟨T, v, w, rfl, hT, rfl, hx, hy⟩ := y
    refine ⟨T, (v, w), rfl, hT, ?_, rfl⟩
    exact List.getElem?_zip_eq_some.mpr ⟨hx xs (e.seq h), hy ys (e.seq h2)⟩
/-- [e for a, b in ..] without a test: τ is the state behind the target -/
theorem lcP_map {J : It} {ps : List (V × V)} {g : TG} {te : TE} {vs : List Nat} (f : V → V → V) (τ : V → V → L2.St) (hJ : PairIt J H1 ps) (hl : ps.length ≤ sizeLine)
    (hg : ∀ T x y H' (R : L2.St → Hp → Prop), H' T = some (.tup [x, y]) → R (τ x y) H' → g (.ref T) (wipe σ vs) H' R)
    (hel : ∀ p ∈ ps, ∀ H', Same H1 H' → ∀ R : VK, (∀ H'', Same H' H'' → R (f p.1 p.2) H'') → te (τ p.1 p.2) H' R)
    (q : ∀ D H', H1 D = none → Same H1 H' → H' D = some (.lst (ps.map fun p => f p.1 p.2)) → Q (.ref D) H') (hw : ∀ x y, wipe (τ x y) vs = wipe σ vs := by intro _ _; rfl) :
    ∀ D, H1 D = none → ∃ W : Nat → Nat → Hp → Prop, (∃ m, W 0 m (upd H1 D (.lst []))) ∧ ∀ i m H, W i m H →
      (J.stop i H ∧ Q (.ref D) H) ∨ (J.go i H ∧ ∃ Nx : Hp → Prop, (∀ H', Nx H' → ∃ m', m' < m ∧ W (i + 1) m' H') ∧ ∀ x H', J.yld i H x H' → g x (wipe σ vs) H' fun σ2 H2 => wipe σ2 vs = wipe σ vs ∧ tYes σ2 H2 fun b H3 =>
        if b = true then te σ2 H3 fun y H4 => ∃ acc, H4 D = some (.lst acc) ∧ acc.length < sizeLine ∧ Nx (upd H4 D (.lst (acc ++ [y]))) else Nx H3) := by
  intro D hD
  refine ⟨fun i m H => m = ps.length - i ∧ i ≤ ps.length ∧ Same H1 H ∧ H D = some (.lst ((ps.take i).map fun p => f p.1 p.2)), ⟨ps.length, by simp, Nat.zero_le _, same_new hD (Same.refl H1), upd_same⟩, ?_⟩
  rintro i m H ⟨rfl, hi, e, hd⟩
  by_cases hlt : i < ps.length
  · refine .inr ⟨hJ.go H e i hlt, fun H' => Same H1 H' ∧ H' D = some (.lst ((ps.take (i + 1)).map fun p => f p.1 p.2)), fun H' ⟨e', d'⟩ => ⟨ps.length - (i + 1), by omega, rfl, hlt, e', d'⟩, fun x H' y => ?_⟩
    obtain ⟨T, p, rfl, hT, hx, rfl⟩ := hJ.yld H e i x H' hlt y
    have hm : p ∈ ps := List.mem_of_getElem? hx
    have htk : ps.take (i + 1) = ps.take i ++ [p] := by rw [List.take_add_one, hx]; rfl
    have nDT : D ≠ T := ne_of_none hd hT
    have hT1 : H1 T = none := by
      cases c : H1 T with
      | none => rfl
      | some o => rw [e T o c] at hT; cases hT
    refine hg T p.1 p.2 _ _ upd_same ⟨hw _ _, ?_⟩
    simp only [tYes, if_true]
    refine hel p hm _ (same_new hT1 e) _ fun H3 e3 => ⟨(ps.take i).map fun p => f p.1 p.2, e3 _ _ (by rw [upd_ne nDT]; exact hd), ?_, ?_, ?_⟩
    · rw [List.length_map, List.length_take]
      omega
    · exact same_new hD ((same_new hT1 e).trans e3)
    · rw [upd_same, htk, List.map_append]
      rfl
  · have hi' : i = ps.length := by omega
    subst hi'
    refine .inl ⟨hJ.stop H e _ (Nat.le_refl _), q D H hD e ?_⟩
    rw [hd, List.take_length]
end
theorem w_seqP3 {D : Ends} {σ : L2.St} {H : Hp} {u : TS} {i j l : Nat} {ts : TA} (q : tPar3 i j l ts { D with nx := u D } σ H) : tSeq (tPar3 i j l ts) u D σ H := q
theorem w_par3 {D : Ends} {σ : L2.St} {H : Hp} {i j l : Nat} {ts : TA} (q : ts σ H fun vs H1 => ∃ u v w, vs = [u, v, w] ∧ gName i u σ H1 fun σ1 H2 => gName j v σ1 H2 fun σ2 H3 => gName l w σ2 H3 D.nx) : tPar3 i j l ts D σ H := q
theorem w_three {x y z : V} {P : V → V → V → Prop} (q : P x y z) : ∃ u v w, [x, y, z] = [u, v, w] ∧ P u v w := ⟨x, y, z, rfl, q⟩
theorem w_star {K : PySem.W.Frag} {σ : L2.St} {H : Hp} {te : TE} {t : TA} {R : List V → Hp → Prop} (q : te σ H fun x H1 => ∃ p xs, x = V.ref p ∧ (SqT K H1 p xs ∨ SqL K H1 p xs) ∧ t σ H1 fun ys H2 => R (xs ++ ys) H2) : tStar K te t σ H R := q
theorem w_revL {K : PySem.W.Frag} {σ : L2.St} {H : Hp} {Q : VK} {te : TE} (q : te σ H fun x H1 => ∃ a xs, x = .ref a ∧ SqL K H1 a xs ∧ ∀ p, H1 p = none → Q (.ref p) (upd H1 p (.lst xs.reverse))) : tRevL K te σ H Q := q
section
variable {K : PySem.W.Frag} {D : Ends} {σ : L2.St} {H : Hp} {Q : VK} {to te : TE} {t : TA} {a : Addr} {xs : List V} {y : V} {L M : List Int}
theorem w_bmF {T : String} {r : V → List V → Hp → VK → Prop} (q : to σ H fun x H1 => tyV K T x H1 ∧ t σ H1 fun xs H2 => r x xs H2 Q) : tBM K T r to t σ H Q := q
theorem w_tyF {P : Prop} (h : H a = some (.lst xs)) (q : P) : tyV K "list" (.ref a) H ∧ P := ⟨.inl ⟨rfl, _, SqL.of h⟩, q⟩
theorem w_appF (h : H a = some (.lst xs)) (l : xs.length < sizeLine) (q : Q .non (upd H a (.lst (xs ++ [y])))) : rAppend (.ref a) [y] H Q := ⟨a, xs, y, rfl, rfl, h, l, q⟩
theorem w_appI {z : Int} (h : H a = some (.lst (L.map V.int))) (l : L.length < sizeLine) (q : Q .non (upd H a (.lst ((L ++ [z]).map V.int)))) : rAppend (.ref a) [.int z] H Q := by
  refine ⟨a, _, _, rfl, rfl, h, by rw [List.length_map]; exact l, ?_⟩
  rw [List.map_append] at q
  exact q
theorem w_catF {b : Addr} (ha : H a = some (.lst (L.map V.int))) (hb : H b = some (.lst (M.map V.int))) (hl : L.length + M.length ≤ sizeLine) (q : ∀ p, H p = none → Q (.ref p) (upd H p (.lst ((L ++ M).map V.int)))) : rCat (.ref a) (.ref b) H Q := by
  refine ⟨a, b, _, _, rfl, rfl, ha, hb, by rw [List.length_map, List.length_map]; exact hl, fun p hp => ?_⟩
  have := q p hp
  rw [List.map_append] at this
  exact this
theorem rep_map (z : Int) : ∀ n : Nat, (List.replicate n [V.int z]).flatten = (List.replicate n z).map V.int
  | 0 => rfl
  | n + 1 => by
    rw [List.replicate_succ, List.flatten_cons, rep_map z n, List.replicate_succ]
    rfl
end
end LB
set_option Elab.async false
set_option linter.all false
set_option maxRecDepth 100000
set_option maxHeartbeats 2000000
/-! LT: sum of a tuple of ints (own work). -/
namespace LB
open PySem PySem.Spec PyProof.Rows L2
/-- sum(t) of a tuple of ints -/
def rSumT (K : PySem.W.Frag) : List V → Hp → VK → Prop := fun vs H Q => ∃ (a : Addr) (ns : List Int), vs = [V.ref a] ∧ SqT K H a (ns.map V.int) ∧ Q (.int ns.sum) H
theorem cr_sumT {X : Cx} (hc : X.calm = true) : CallR X (.builtin "sum") (rSumT X.K) := by
  intro pins s σ H vs us Q I r h
  obtain ⟨a, ns, rfl, hs, q⟩ := h
  obtain ⟨its, rv, hl, _⟩ := I.tuple hs
  rw [Vals.ref1 r]
  have hi := rv.ints
  obtain ⟨xs, e⟩ := hi.allInts.items
  have hn : numsOf (intItems xs).toList = ns := by rw [← e]; exact hi.numsOf
  rw [nums_intItems] at hn
  have hl' : s.heap.IsTuple a its.toArray := hl
  rw [e] at hl'
  refine PySem.W.ktm_sumG (I.ok.hd hc) hl' fun h' tk t' hk => ?_
  rw [preSum_eq, List.take_of_length_le (by simp), hn]
  exact ⟨.int _, H, I.kept hk, ⟨_, rfl⟩, q⟩
end LB

namespace LB
open PySem PySem.Spec PyProof.Rows L2
local macro_rules | `(tactic| walk_at "st") => `(tactic| (with_reducible first | refine w_inst ?_ | refine w_instAt ?_))
/-! ### the stepping word -/
local macro_rules | `(tactic| walk_at "hp") => `(tactic| first
  | assumption
  | with_reducible exact upd_same
  | (refine Eq.trans (upd_ne ?_) ?_; (· walk_at "ne"); (· walk_at "hp")))
local macro_rules | `(tactic| walk_at "ne") => `(tactic| first
  | assumption
  | (apply Ne.symm; assumption))
local macro_rules | `(tactic| walk_at "cond") => `(tactic| first
  | assumption
  | with_reducible rfl
  | omega
  | decide
  | (refine And.intro ?_ ?_ <;> first | assumption | omega | decide)
  | (refine Or.inl (Or.inl ⟨?_, ?_⟩) <;> omega)
  | (refine Or.inl (Or.inr ⟨?_, ?_⟩) <;> omega)
  | (refine ⟨?_, ?_, ?_⟩ <;> omega))
local macro_rules | `(tactic| walk_at "len") => `(tactic| (simp only [List.length_cons, List.length_nil, List.length_append]; decide))
local macro_rules | `(tactic| walk_at "st") => `(tactic| first
  | (with_reducible first
  | refine w_seqA ?_ | refine w_seqE ?_ | refine w_seqG ?_ | refine w_seqP ?_ | refine w_par ?_ | refine w_asg ?_ | refine w_ret ?_ | refine w_ifS ?_ | refine w_drop ?_ | refine w_next ?_ | refine w_nx ?_ | refine w_rt ?_ | refine w_bk ?_ | refine w_ct ?_ | refine w_brk ?_ | refine w_cont ?_
  | refine w_op ?_ | refine w_c ?_
  | refine w_v0 ?_ | refine w_v1 ?_ | refine w_v2 ?_ | refine w_v3 ?_ | refine w_v4 ?_ | refine w_v5 ?_ | refine w_v6 ?_ | refine w_v7 ?_ | refine w_v8 ?_ | refine w_v9 ?_ | refine w_v10 ?_ | refine w_v11 ?_ | refine w_v12 ?_
  | refine w_g0 ?_ | refine w_g1 ?_ | refine w_g2 ?_ | refine w_g3 ?_ | refine w_g4 ?_ | refine w_g5 ?_ | refine w_g6 ?_ | refine w_g7 ?_ | refine w_g8 ?_ | refine w_g9 ?_ | refine w_g10 ?_ | refine w_g11 ?_ | refine w_g12 ?_
  | refine w_I0 ?_
  | refine w_cb ?_ | refine w_cons ?_ | refine w_nil ?_
  | refine w_test ?_ | refine w_B ?_ | refine w_bl ?_
  | refine w_un ?_ | refine w_U ?_ | refine w_if ?_ | refine w_andV ?_ | refine w_orV ?_ | refine w_notV ?_
  | refine w_and ?_ | refine w_or ?_ | refine w_not ?_ | refine w_chain ?_
  | refine w_lst ?_ | refine w_tup ?_ | refine w_call ?_ | refine w_callN ?_ | refine w_sl ?_ | refine w_noPart ?_ | refine w_part ?_ | refine w_int ?_ | refine w_two ?_ | refine w_retN ?_
  | refine w_int1 ?_ | refine w_int1b ?_ | refine w_abs ?_ | refine w_isN ?_ | refine w_notN ?_ | refine w_isB ?_ | refine w_isNotB ?_ | refine w_in1 ?_ | refine w_notIn1 ?_ | refine w_gSub ?_ | refine w_iStr ?_ | refine w_str ?_ | refine w_iRng1 ?_ | refine w_iRng2 ?_ | refine w_iList ?_ | refine w_iTup ?_ | refine w_for ?_)
  | ((with_reducible refine' w_ixL ?h ?e ?_); (case h => walk_at "hp"); (case e => exact rfl))
  | ((with_reducible refine' w_ixT ?h ?e ?_); (case h => walk_at "hp"); (case e => exact rfl))
  | ((with_reducible refine' w_lenL ?h ?_); (case h => walk_at "hp"))
  | ((with_reducible refine' w_lenT ?h ?_); (case h => walk_at "hp"))
  | ((with_reducible refine' w_set31 ?h ?_); (case h => walk_at "hp"))
  | ((with_reducible refine' w_set32 ?h ?_); (case h => walk_at "hp"))
  | ((with_reducible refine' w_I ?h ?_); (case h => walk_at "cond"))
  | ((with_reducible refine' w_eq ?h ?_); (case h => exact rfl))
  | ((with_reducible refine' w_ne ?h ?_); (case h => exact rfl))
  | ((with_reducible refine' w_iteT ?h ?_); (case h => exact rfl))
  | ((with_reducible refine' w_iteF ?h ?_); (case h => exact rfl))
  | ((with_reducible refine' w_lstAt ?h ?_); (case h => walk_at "hp"))
  | ((with_reducible refine' w_tupAt ?h ?_); (case h => walk_at "hp"))
  | ((with_reducible refine' w_rng1 ?h ?_); (case h => (constructor <;> omega)))
  | ((with_reducible refine' w_slS ?h ?_); (case h => first | assumption | decide +kernel))
  | ((with_reducible refine' w_lenS ?h ?_); (case h => first | assumption | decide +kernel))
  | ((with_reducible refine' w_addS ?h ?_); (case h => exact addlen (by first | assumption | decide +kernel) (by first | assumption | decide +kernel)))
  | ((with_reducible refine' w_strI ?h ?_); (case h => first | assumption | decide +kernel))
  | ((with_reducible refine' w_mulS ?h ?_); (case h => decide +kernel)))/-! ### .. with objects -/
set_option hygiene false in
local macro_rules | `(tactic| walk_at "na") => `(tactic| first
  | exact T.na_told _ | exact T.na_longest | exact T.na_manyC | exact T.na_manyS | exact T.na_letters _ | exact T.na_own _ | exact T.na_sh_setting | exact T.na_sh_is_hidden | exact T.na_sh_by_word | exact T.na_sh_by_number | exact T.na_sh_grown_now)
set_option hygiene false in
local macro_rules | `(tactic| walk_at "cl") => `(tactic| first | exact T.cl_lim _ | exact T.cl_set _ | exact T.cl_shelf)
set_option hygiene false in
local macro_rules | `(tactic| walk_at "st") => `(tactic| first
  | (with_reducible first
  | refine w_seqF ?_ | refine w_sFld ?_ | refine w_fld ?_ | refine w_con ?_ | refine w_meth ?_ | refine w_prop ?_ | refine w_make ?_ | refine w_dget ?_ | refine w_din ?_ | refine w_dnotin ?_ | refine w_dput ?_ | refine w_seqD ?_ | refine w_gCons ?_ | refine w_gNil ?_)
  | ((with_reducible refine' w_fldAt ?h ?c ?n ?l ?_); (case h => walk_at "hp"); (case c => walk_at "cl"); (case n => walk_at "na"); (case l => exact rfl))
  | ((with_reducible refine' w_sFldAt ?h ?c ?n ?l ?e ?_); (case h => walk_at "hp"); (case c => walk_at "cl"); (case n => walk_at "na"); (case l => first | decide | exact of_decide_eq_true rfl); (case e => exact rfl))
  | ((with_reducible refine' w_methAt ?h ?l ?_); (case h => walk_at "hp"); (case l => exact rfl))
  | ((with_reducible refine' w_propAt ?h ?_); (case h => walk_at "hp"))
  | ((with_reducible refine' w_gTup ?h ?l ?_); (case h => walk_at "hp"); (case l => exact rfl)))

set_option hygiene false in
local macro_rules | `(tactic| walk_at "st") => `(tactic| first
  | (with_reducible first | refine w_aug0 ?_ | refine w_aug1 ?_ | refine w_aug2 ?_ | refine w_aug3 ?_ | refine w_aug4 ?_ | refine w_aug5 ?_ | refine w_aug6 ?_ | refine w_aug7 ?_ | refine w_aug8 ?_ | refine w_aug9 ?_ | refine w_aug10 ?_ | refine w_aug11 ?_ | refine w_aug12 ?_ | refine w_aug13 ?_ | refine w_bmF ?_ | refine w_star ?_ | refine w_seqP3 ?_ | refine w_par3 ?_ | refine w_three ?_)
  | ((with_reducible refine' w_aug ?h ?_); (case h => exact rfl))
  | ((with_reducible refine' w_tyF ?h ?_); (case h => walk_at "hp")))

section Pt_cod0
/-! ### the classes by their names -/
inductive LimK where
  | free | short | cleared | standing
def limNm : LimK → Str
  | .free => "Free"
  | .short => "Short"
  | .cleared => "Cleared"
  | .standing => "Standing"
abbrev cLim (K : PySem.W.Frag) (k : LimK) : Addr := He.ga K (limNm k)
abbrev cSet (K : PySem.W.Frag) (h : Bool) : Addr := He.ga K (match h with | true => "Hidden" | false => "Told")
abbrev cShelf (K : PySem.W.Frag) : Addr := He.ga K "Shelf"
def setWord : Bool → Str
  | true => "hidden"
  | false => "told"
def ClsCon (K : PySem.W.Frag) (C : Addr) (f : Str) (v : V) : Prop := ∃ mc u, ClX.CRead K C mc ∧ ClX.CVal K C mc f v u
def clsConB (K : PySem.W.Frag) (C f : Str) (v : V) : Bool := match PySem.W.findCls K (.ref (He.ga K C)) (.type "type") f with
  | some (.val u) => He.relB v u && (PySem.W.readsIn K (He.ga K C) (.type "type") && He.eqO (PySem.W.specialIn K (.ref (He.ga K C)) "__getattribute__") (some (some (.builtin "type.__getattribute__"))))
  | _ => false
theorem clsCon_ok {K : PySem.W.Frag} {C f : Str} {v : V} (h : clsConB K C f v = true) : ClsCon K (He.ga K C) f v := by
  unfold clsConB at h
  split at h
  · rename_i u e
    obtain ⟨h1, h2⟩ := He.ba h
    obtain ⟨h3, h4⟩ := He.ba h2
    exact ⟨_, u, ⟨h3, He.eqO_ok h4⟩, ⟨e, He.relB_ok h1⟩⟩
  · cases h
def gtA (K : PySem.W.Frag) (C : Addr) (f : Str) : Addr := match PySem.W.recIn K (He.ma K C f) "property" with
  | some (.ref g :: _) => g
  | _ => 0
def propB (K : PySem.W.Frag) (C f : Str) : Bool := He.eqO (PySem.W.findIn K (.ref (He.ga K C)) f) (some (some (.ref (He.ma K (He.ga K C) f)))) &&
  (He.eqO (PySem.W.specialIn K (.ref (He.ma K (He.ga K C) f)) "__get__") (some (some (.builtin "property.__get__"))) && (decide (PySem.W.takesIn K (.ref (He.ma K (He.ga K C) f)) = some true) &&
    match PySem.W.recIn K (He.ma K (He.ga K C) f) "property" with
    | some (.ref _ :: _) => true
    | _ => false))
theorem prop_ok {K : PySem.W.Frag} {C f : Str} (h : propB K C f = true) : PropOf K (He.ga K C) f (He.ma K (He.ga K C) f) (gtA K (He.ga K C) f) := by
  obtain ⟨h1, h2⟩ := He.ba h
  obtain ⟨h3, h4⟩ := He.ba h2
  obtain ⟨h5, h6⟩ := He.ba h4
  refine ⟨He.eqO_ok h1, He.eqO_ok h3, of_decide_eq_true h5, ?_⟩
  unfold gtA
  split at h6
  · rename_i g r e
    rw [e]
    exact ⟨r, rfl⟩
  · cases h6
def callB (K : PySem.W.Frag) (C : Str) : Bool := (He.Fa.meth C "__call__").ok K && PySem.W.fnIn K (He.ma K (He.ga K C) "__call__")
theorem call_ok {K : PySem.W.Frag} {C : Str} (h : callB K C = true) : CallOf K (He.ga K C) (He.ma K (He.ga K C) "__call__") := by
  obtain ⟨h1, h2⟩ := He.ba h
  obtain ⟨a, b, _⟩ := He.meth_ok h1
  exact ⟨a, b, h2⟩
/-- C's instances are D's -/
structure Isa (K : PySem.W.Frag) (C D : Addr) : Prop where
  a1 : PySem.W.findIn K (.ref C) "__class__" = some (some (.builtin "object.__class__"))
  a2 : PySem.W.specialIn K (.builtin "object.__class__") "__get__" = some (some (.builtin "getset_descriptor.__get__"))
  a3 : PySem.W.takesIn K (.builtin "object.__class__") = some true
  a4 : PySem.W.mroIn K C (.type "object") = some true
  a5 : PySem.W.kitOne K (.ref C) (.ref D) = some true
def isaB (K : PySem.W.Frag) (C D : Str) : Bool := He.eqO (PySem.W.findIn K (.ref (He.ga K C)) "__class__") (some (some (.builtin "object.__class__"))) && (He.eqO (PySem.W.specialIn K (.builtin "object.__class__") "__get__") (some (some (.builtin "getset_descriptor.__get__"))) &&
  (decide (PySem.W.takesIn K (.builtin "object.__class__") = some true) && (decide (PySem.W.mroIn K (He.ga K C) (.type "object") = some true) && decide (PySem.W.kitOne K (.ref (He.ga K C)) (.ref (He.ga K D)) = some true))))
theorem isa_ok {K : PySem.W.Frag} {C D : Str} (h : isaB K C D = true) : Isa K (He.ga K C) (He.ga K D) := by
  obtain ⟨h1, h⟩ := He.ba h
  obtain ⟨h2, h⟩ := He.ba h
  obtain ⟨h3, h⟩ := He.ba h
  obtain ⟨h4, h5⟩ := He.ba h
  exact ⟨He.eqO_ok h1, He.eqO_ok h2, of_decide_eq_true h3, of_decide_eq_true h4, of_decide_eq_true h5⟩
theorem w_isaT {K : PySem.W.Frag} {H : Hp} {Q : VK} {a C D dx : Addr} {fs : List (Str × V)} (h : H a = some (.ins C dx fs)) (c : Cls K C) (i : Isa K C D) (q : Q (.bl true) H) : rIsi K [.ref a, .ref D] H Q :=
  ⟨.ref a, .ref D, .ref C, .ref D, true, rfl, .own _, .base (.ins h c i.a1 i.a2 i.a3 i.a4), i.a5, q⟩
def strB (K : PySem.W.Frag) (C : Str) : Bool := (He.Fa.meth C "__str__").ok K
theorem str_ok {K : PySem.W.Frag} {C : Str} (h : strB K C = true) : StrBy K (He.ga K C) (He.ma K (He.ga K C) "__str__") := by
  obtain ⟨a, b, _⟩ := He.meth_ok h
  exact ⟨a, b⟩
def limW : LimK → Str
  | .free => "free"
  | .short => "short"
  | .cleared => "cleared"
  | .standing => "standing"
def fmtB (K : PySem.W.Frag) (C : Str) : Bool := strB K C && (He.eqO (PySem.W.findIn K (.ref (He.ga K C)) "__format__") (some (some (.builtin "object.__format__"))) && decide (PySem.W.mroIn K (He.ga K C) (.type "object") = some true))
theorem fmt_ok {K : PySem.W.Frag} {C : Str} (h : fmtB K C = true) : FmtBy K (He.ga K C) (He.ma K (He.ga K C) "__str__") := by
  obtain ⟨h1, h2⟩ := He.ba h
  obtain ⟨h3, h4⟩ := He.ba h2
  obtain ⟨a, b⟩ := str_ok h1
  exact ⟨a, b, He.eqO_ok h3, of_decide_eq_true h4⟩

end Pt_cod0
section Pt_lev0
/-! ### more of the classes: instances or not, classmethods, constants read off classes, operators -/
structure IsaB (K : PySem.W.Frag) (C D : Addr) (b : Bool) : Prop where
  a1 : PySem.W.findIn K (.ref C) "__class__" = some (some (.builtin "object.__class__"))
  a2 : PySem.W.specialIn K (.builtin "object.__class__") "__get__" = some (some (.builtin "getset_descriptor.__get__"))
  a3 : PySem.W.takesIn K (.builtin "object.__class__") = some true
  a4 : PySem.W.mroIn K C (.type "object") = some true
  a5 : PySem.W.kitOne K (.ref C) (.ref D) = some b
def isaBB (K : PySem.W.Frag) (C D : Str) (b : Bool) : Bool := He.eqO (PySem.W.findIn K (.ref (He.ga K C)) "__class__") (some (some (.builtin "object.__class__"))) && (He.eqO (PySem.W.specialIn K (.builtin "object.__class__") "__get__") (some (some (.builtin "getset_descriptor.__get__"))) &&
  (decide (PySem.W.takesIn K (.builtin "object.__class__") = some true) && (decide (PySem.W.mroIn K (He.ga K C) (.type "object") = some true) && decide (PySem.W.kitOne K (.ref (He.ga K C)) (.ref (He.ga K D)) = some b))))
theorem isaB_ok {K : PySem.W.Frag} {C D : Str} {b : Bool} (h : isaBB K C D b = true) : IsaB K (He.ga K C) (He.ga K D) b := by
  obtain ⟨h1, h⟩ := He.ba h
  obtain ⟨h2, h⟩ := He.ba h
  obtain ⟨h3, h⟩ := He.ba h
  obtain ⟨h4, h5⟩ := He.ba h
  exact ⟨He.eqO_ok h1, He.eqO_ok h2, of_decide_eq_true h3, of_decide_eq_true h4, of_decide_eq_true h5⟩
theorem w_isaB {K : PySem.W.Frag} {H : Hp} {Q : VK} {a C D dx : Addr} {fs : List (Str × V)} {b : Bool} (h : H a = some (.ins C dx fs)) (c : Cls K C) (i : IsaB K C D b) (q : Q (.bl b) H) : rIsi K [.ref a, .ref D] H Q :=
  ⟨.ref a, .ref D, .ref C, .ref D, b, rfl, .own _, .base (.ins h c i.a1 i.a2 i.a3 i.a4), i.a5, q⟩
def kEq : LimK → LimK → Bool
  | .free, .free => true
  | .short, .short => true
  | .cleared, .cleared => true
  | .standing, .standing => true
  | _, _ => false
def readB (K : PySem.W.Frag) (C : Str) : Bool := PySem.W.readsIn K (He.ga K C) (.type "type") && He.eqO (PySem.W.specialIn K (.ref (He.ga K C)) "__getattribute__") (some (some (.builtin "type.__getattribute__")))
theorem read_ok {K : PySem.W.Frag} {C : Str} (h : readB K C = true) : ClX.CRead K (He.ga K C) (.type "type") := by
  obtain ⟨h1, h2⟩ := He.ba h
  exact ⟨h1, He.eqO_ok h2⟩
def cmB (K : PySem.W.Frag) (C m : Str) : Bool := He5.wrapB K (He.ga K C) "classmethod" "classmethod.__get__" m && PySem.W.fnIn K (He5.wf K (He.ga K C) "classmethod" m)
theorem cm_ok {K : PySem.W.Frag} {C m : Str} (h : cmB K C m = true) : ClX.CMet K (He.ga K C) (.type "type") m (He.ma K (He.ga K C) m) (He5.wf K (He.ga K C) "classmethod" m) := by
  obtain ⟨h1, h2⟩ := He.ba h
  exact He5.cmet_of h1 h2
theorem spec_ok {K : PySem.W.Frag} {C m : Str} (h : (He.Fa.meth C m).ok K = true) : SpecOf K (He.ga K C) m (He.ma K (He.ga K C) m) := by
  obtain ⟨a, b, _⟩ := He.meth_ok h
  exact ⟨a, b⟩
def ropB (K : PySem.W.Frag) (C : Str) (nm : String) (m : Str) : Bool := He.eqO (PySem.W.findIn K (.ref (He.ga K C)) (PySem.dunder nm)) (some none) && ((He.Fa.meth C m).ok K && (PySem.W.selfFirst K (He.ga K C) && decide (PySem.W.subIn K (.ref (He.ga K C)) (.type "int") = some false)))
theorem rop_ok {K : PySem.W.Frag} {C : Str} {nm : String} {m : Str} (e : dunderR nm = m) (h : ropB K C nm m = true) : ROpOf K (He.ga K C) nm (He.ma K (He.ga K C) m) := by
  obtain ⟨h1, h⟩ := He.ba h
  obtain ⟨h2, h⟩ := He.ba h
  obtain ⟨h3, h4⟩ := He.ba h
  obtain ⟨a, b, _⟩ := He.meth_ok h2
  exact ⟨He.eqO_ok h1, by rw [e]; exact a, b, h3, of_decide_eq_true h4⟩

end Pt_lev0
section Pt_pre
def top (i : Nat) : Stmt := PySem.Challenge.pw_learntbooks_k56_whole_great_lengths.main.body.getD i (.Pass ⟨0, 0, 0, 0⟩)
abbrev s_is_int : Stmt := top 21
abbrev s_is_between : Stmt := top 22
abbrev s_need_number : Stmt := top 23
abbrev s_need_size : Stmt := top 24
abbrev s_need_letters : Stmt := top 25
abbrev s_signs_of : Stmt := top 26
abbrev s_need_text : Stmt := top 27
abbrev s_number_of : Stmt := top 28
abbrev s_Limit_lets : Stmt := inClass (top 30) 2
abbrev s_Limit_ends_at : Stmt := inClass (top 30) 3
abbrev s_Free___init__ : Stmt := inClass (top 33) 1
abbrev s_Short___init__ : Stmt := inClass (top 34) 2
abbrev s_Short_lets : Stmt := inClass (top 34) 3
abbrev s_Cleared___init__ : Stmt := inClass (top 35) 1
abbrev s_Cleared_ends_at : Stmt := inClass (top 35) 2
abbrev s_Standing___init__ : Stmt := inClass (top 36) 1
abbrev s_Standing_lets : Stmt := inClass (top 36) 2
abbrev s_limit_at : Stmt := top 37
abbrev s_need_setting : Stmt := top 43
abbrev s_Setting___init__ : Stmt := inClass (top 45) 1
abbrev s_Setting_read : Stmt := inClass (top 45) 2
abbrev s_Setting_limit : Stmt := inClass (top 45) 3
abbrev s_setting_at : Stmt := top 48
abbrev s_first_level : Stmt := top 50
abbrev s_filled : Stmt := top 51
abbrev s_filled_but : Stmt := top 52
abbrev s_letters_in : Stmt := top 53
abbrev s_added : Stmt := top 54
abbrev s_spared_counts : Stmt := top 55
abbrev s_spared_for : Stmt := top 56
abbrev s_is_loose : Stmt := top 57
abbrev s_counts_for : Stmt := top 58
abbrev s_least_of : Stmt := top 59
abbrev s_need_told_of : Stmt := top 61
abbrev s_most_of : Stmt := top 62
abbrev s_longest_code : Stmt := top 63
abbrev s_greatest_of : Stmt := top 64
abbrev s_fewest_of : Stmt := top 65
abbrev s_told_most : Stmt := top 66
abbrev s_told_fewest : Stmt := top 67
abbrev s_Most___init__ : Stmt := inClass (top 68) 0
abbrev s_Most___call__ : Stmt := inClass (top 68) 1
abbrev s_Fewest___init__ : Stmt := inClass (top 69) 0
abbrev s_Fewest___call__ : Stmt := inClass (top 69) 1
abbrev s_Levels___init__ : Stmt := inClass (top 70) 0
abbrev s_most : Stmt := top 71
abbrev s_fewest : Stmt := top 72
abbrev s_levels : Stmt := top 73
abbrev s_place_letter : Stmt := top 75
abbrev s_digits_of : Stmt := top 76
abbrev s_level_of : Stmt := top 77
abbrev s_spared_level : Stmt := top 78
abbrev s_Worst___init__ : Stmt := inClass (top 79) 0
abbrev s_Worst_begin_of : Stmt := inClass (top 79) 1
abbrev s_Worst_whole_word : Stmt := inClass (top 79) 2
abbrev s_Worst_hidden_word : Stmt := inClass (top 79) 3
abbrev s_Worst_told_word : Stmt := inClass (top 79) 4
abbrev s_Worst_spared_word : Stmt := inClass (top 79) 5
abbrev s_Worst_code_at : Stmt := inClass (top 79) 6
abbrev s_Worst_place_of : Stmt := inClass (top 79) 7
abbrev s_worst_for : Stmt := top 80
abbrev s_worst_code : Stmt := top 81
abbrev s_worst_place : Stmt := top 82
abbrev s_worst_letter : Stmt := top 83
abbrev s_are_counts : Stmt := top 85
abbrev s_is_last : Stmt := top 86
abbrev s_shows_levels : Stmt := top 87
abbrev s_law_pen : Stmt := top 89
abbrev s_law_draw : Stmt := top 90
abbrev s_law_pick : Stmt := top 91
abbrev s_law_far : Stmt := top 92
abbrev s_law_plain : Stmt := top 93
abbrev s_law_setting : Stmt := top 94
abbrev s_law_free_letters : Stmt := top 95
abbrev s_law_letters : Stmt := top 96
abbrev s_law_greatest : Stmt := top 97
abbrev s_law : Stmt := top 98
theorem sc_is_int : FnScope ["value"] ["value"] (defScope s_is_int) := ⟨rfl, rfl, rfl, by decide +kernel, rfl, by decide +kernel, by decide +kernel⟩
theorem sc_is_between : FnScope ["value", "least", "most"] ["value", "least", "most"] (defScope s_is_between) := ⟨rfl, rfl, rfl, by decide +kernel, rfl, by decide +kernel, by decide +kernel⟩
theorem sc_need_number : FnScope ["value", "least", "most"] ["value", "least", "most"] (defScope s_need_number) := ⟨rfl, rfl, rfl, by decide +kernel, rfl, by decide +kernel, by decide +kernel⟩
theorem sc_need_size : FnScope ["value"] ["value"] (defScope s_need_size) := ⟨rfl, rfl, rfl, by decide +kernel, rfl, by decide +kernel, by decide +kernel⟩
theorem sc_need_letters : FnScope ["value"] ["value"] (defScope s_need_letters) := ⟨rfl, rfl, rfl, by decide +kernel, rfl, by decide +kernel, by decide +kernel⟩
theorem sc_signs_of : FnScope ["letters"] ["letters"] (defScope s_signs_of) := ⟨rfl, rfl, rfl, by decide +kernel, rfl, by decide +kernel, by decide +kernel⟩
theorem sc_need_text : FnScope ["value", "letters", "at", "sign"] ["value", "letters"] (defScope s_need_text) := ⟨rfl, rfl, rfl, by decide +kernel, rfl, by decide +kernel, by decide +kernel⟩
theorem sc_number_of : FnScope ["word", "least", "most", "digits", "number", "sign"] ["word", "least", "most"] (defScope s_number_of) := ⟨rfl, rfl, rfl, by decide +kernel, rfl, by decide +kernel, by decide +kernel⟩
theorem sc_Limit_lets : FnScope ["self", "grown", "size"] ["self", "grown", "size"] (defScope s_Limit_lets) := ⟨rfl, rfl, rfl, by decide +kernel, rfl, by decide +kernel, by decide +kernel⟩
theorem sc_Limit_ends_at : FnScope ["self", "grown"] ["self", "grown"] (defScope s_Limit_ends_at) := ⟨rfl, rfl, rfl, by decide +kernel, rfl, by decide +kernel, by decide +kernel⟩
theorem sc_Free___init__ : FnScope ["self"] ["self"] (defScope s_Free___init__) := ⟨rfl, rfl, rfl, by decide +kernel, rfl, by decide +kernel, by decide +kernel⟩
theorem sc_Short___init__ : FnScope ["self", "longest"] ["self", "longest"] (defScope s_Short___init__) := ⟨rfl, rfl, rfl, by decide +kernel, rfl, by decide +kernel, by decide +kernel⟩
theorem sc_Short_lets : FnScope ["self", "grown", "size"] ["self", "grown", "size"] (defScope s_Short_lets) := ⟨rfl, rfl, rfl, by decide +kernel, rfl, by decide +kernel, by decide +kernel⟩
theorem sc_Cleared___init__ : FnScope ["self", "many"] ["self", "many"] (defScope s_Cleared___init__) := ⟨rfl, rfl, rfl, by decide +kernel, rfl, by decide +kernel, by decide +kernel⟩
theorem sc_Cleared_ends_at : FnScope ["self", "grown"] ["self", "grown"] (defScope s_Cleared_ends_at) := ⟨rfl, rfl, rfl, by decide +kernel, rfl, by decide +kernel, by decide +kernel⟩
theorem sc_Standing___init__ : FnScope ["self", "many"] ["self", "many"] (defScope s_Standing___init__) := ⟨rfl, rfl, rfl, by decide +kernel, rfl, by decide +kernel, by decide +kernel⟩
theorem sc_Standing_lets : FnScope ["self", "grown", "size"] ["self", "grown", "size"] (defScope s_Standing_lets) := ⟨rfl, rfl, rfl, by decide +kernel, rfl, by decide +kernel, by decide +kernel⟩
theorem sc_limit_at : FnScope ["words", "at", "word", "most", "told"] ["words", "at"] (defScope s_limit_at) := ⟨rfl, rfl, rfl, by decide +kernel, rfl, by decide +kernel, by decide +kernel⟩
theorem sc_need_setting : FnScope ["value", "part"] ["value", "part"] (defScope s_need_setting) := ⟨rfl, rfl, rfl, by decide +kernel, rfl, by decide +kernel, by decide +kernel⟩
theorem sc_Setting___init__ : FnScope ["self", "letters", "limit"] ["self", "letters", "limit"] (defScope s_Setting___init__) := ⟨rfl, rfl, rfl, by decide +kernel, rfl, by decide +kernel, by decide +kernel⟩
theorem sc_Setting_read : FnScope ["cls", "text", "words", "found", "at"] ["cls", "text"] (defScope s_Setting_read) := ⟨rfl, rfl, rfl, by decide +kernel, rfl, by decide +kernel, by decide +kernel⟩
theorem sc_Setting_limit : FnScope ["self"] ["self"] (defScope s_Setting_limit) := ⟨rfl, rfl, rfl, by decide +kernel, rfl, by decide +kernel, by decide +kernel⟩
theorem sc_setting_at : FnScope ["words", "at", "word", "letters", "limit", "spot"] ["words", "at"] (defScope s_setting_at) := ⟨rfl, rfl, rfl, by decide +kernel, rfl, by decide +kernel, by decide +kernel⟩
theorem sc_first_level : FnScope ["setting"] ["setting"] (defScope s_first_level) := ⟨rfl, rfl, rfl, by decide +kernel, rfl, by decide +kernel, by decide +kernel⟩
theorem sc_filled : FnScope ["setting", "many", "deepest", "size", "left", "found", "taken"] ["setting", "many", "deepest"] (defScope s_filled) := ⟨rfl, rfl, rfl, by decide +kernel, rfl, by decide +kernel, by decide +kernel⟩
theorem sc_filled_but : FnScope ["letters", "many", "spared", "size", "lost", "left", "found", "taken"] ["letters", "many", "spared"] (defScope s_filled_but) := ⟨rfl, rfl, rfl, by decide +kernel, rfl, by decide +kernel, by decide +kernel⟩
theorem sc_letters_in : FnScope ["counts", "at", "number"] ["counts"] (defScope s_letters_in) := ⟨rfl, rfl, rfl, by decide +kernel, rfl, by decide +kernel, by decide +kernel⟩
theorem sc_added : FnScope ["counts", "others", "size", "first", "last", "one", "other"] ["counts", "others"] (defScope s_added) := ⟨rfl, rfl, rfl, by decide +kernel, rfl, by decide +kernel, by decide +kernel⟩
theorem sc_spared_counts : FnScope ["setting", "many", "spared", "limit", "alike"] ["setting", "many", "spared"] (defScope s_spared_counts) := ⟨rfl, rfl, rfl, by decide +kernel, rfl, by decide +kernel, by decide +kernel⟩
theorem sc_spared_for : FnScope ["setting", "many", "deepest", "best", "found", "spared", "size"] ["setting", "many"] (defScope s_spared_for) := ⟨rfl, rfl, rfl, by decide +kernel, rfl, by decide +kernel, by decide +kernel⟩
theorem sc_is_loose : FnScope ["setting"] ["setting"] (defScope s_is_loose) := ⟨rfl, rfl, rfl, by decide +kernel, rfl, by decide +kernel, by decide +kernel⟩
theorem sc_counts_for : FnScope ["setting", "many", "limit", "whole", "found", "number"] ["setting", "many"] (defScope s_counts_for) := ⟨rfl, rfl, rfl, by decide +kernel, rfl, by decide +kernel, by decide +kernel⟩
theorem sc_least_of : FnScope ["setting", "codes"] ["setting", "codes"] (defScope s_least_of) := ⟨rfl, rfl, rfl, by decide +kernel, rfl, by decide +kernel, by decide +kernel⟩
theorem sc_need_told_of : FnScope ["setting", "size"] ["setting", "size"] (defScope s_need_told_of) := ⟨rfl, rfl, rfl, by decide +kernel, rfl, by decide +kernel, by decide +kernel⟩
theorem sc_most_of : FnScope ["setting", "size", "low", "high", "middle"] ["setting", "size"] (defScope s_most_of) := ⟨rfl, rfl, rfl, by decide +kernel, rfl, by decide +kernel, by decide +kernel⟩
theorem sc_longest_code : FnScope ["setting", "limit"] ["setting"] (defScope s_longest_code) := ⟨rfl, rfl, rfl, by decide +kernel, rfl, by decide +kernel, by decide +kernel⟩
theorem sc_greatest_of : FnScope ["setting", "codes", "limit", "rest", "longest"] ["setting", "codes"] (defScope s_greatest_of) := ⟨rfl, rfl, rfl, by decide +kernel, rfl, by decide +kernel, by decide +kernel⟩
theorem sc_fewest_of : FnScope ["setting", "size", "low", "high", "middle"] ["setting", "size"] (defScope s_fewest_of) := ⟨rfl, rfl, rfl, by decide +kernel, rfl, by decide +kernel, by decide +kernel⟩
theorem sc_told_most : FnScope ["setting", "n"] ["setting", "n"] (defScope s_told_most) := ⟨rfl, rfl, rfl, by decide +kernel, rfl, by decide +kernel, by decide +kernel⟩
theorem sc_told_fewest : FnScope ["setting", "n"] ["setting", "n"] (defScope s_told_fewest) := ⟨rfl, rfl, rfl, by decide +kernel, rfl, by decide +kernel, by decide +kernel⟩
theorem sc_Most___init__ : FnScope ["self", "setting"] ["self", "setting"] (defScope s_Most___init__) := ⟨rfl, rfl, rfl, by decide +kernel, rfl, by decide +kernel, by decide +kernel⟩
theorem sc_Most___call__ : FnScope ["self", "n"] ["self", "n"] (defScope s_Most___call__) := ⟨rfl, rfl, rfl, by decide +kernel, rfl, by decide +kernel, by decide +kernel⟩
theorem sc_Fewest___init__ : FnScope ["self", "setting"] ["self", "setting"] (defScope s_Fewest___init__) := ⟨rfl, rfl, rfl, by decide +kernel, rfl, by decide +kernel, by decide +kernel⟩
theorem sc_Fewest___call__ : FnScope ["self", "n"] ["self", "n"] (defScope s_Fewest___call__) := ⟨rfl, rfl, rfl, by decide +kernel, rfl, by decide +kernel, by decide +kernel⟩
theorem sc_Levels___init__ : FnScope ["self", "codes", "letters", "counts"] ["self", "codes", "letters", "counts"] (defScope s_Levels___init__) := ⟨rfl, rfl, rfl, by decide +kernel, rfl, by decide +kernel, by decide +kernel⟩
theorem sc_most : FnScope ["setting", "n"] ["setting", "n"] (defScope s_most) := ⟨rfl, rfl, rfl, by decide +kernel, rfl, by decide +kernel, by decide +kernel⟩
theorem sc_fewest : FnScope ["setting", "n"] ["setting", "n"] (defScope s_fewest) := ⟨rfl, rfl, rfl, by decide +kernel, rfl, by decide +kernel, by decide +kernel⟩
theorem sc_levels : FnScope ["setting", "n", "codes", "counts"] ["setting", "n"] (defScope s_levels) := ⟨rfl, rfl, rfl, by decide +kernel, rfl, by decide +kernel, by decide +kernel⟩
theorem sc_place_letter : FnScope ["letters", "place", "at"] ["letters", "place"] (defScope s_place_letter) := ⟨rfl, rfl, rfl, by decide +kernel, rfl, by decide +kernel, by decide +kernel⟩
theorem sc_digits_of : FnScope ["letters", "number", "size", "found", "turn"] ["letters", "number", "size"] (defScope s_digits_of) := ⟨rfl, rfl, rfl, by decide +kernel, rfl, by decide +kernel, by decide +kernel⟩
theorem sc_level_of : FnScope ["first", "letters", "at", "deepest", "size", "depth"] ["first", "letters", "at", "deepest"] (defScope s_level_of) := ⟨rfl, rfl, rfl, by decide +kernel, rfl, by decide +kernel, by decide +kernel⟩
theorem sc_spared_level : FnScope ["letters", "at", "spared", "size", "lost", "depth"] ["letters", "at", "spared"] (defScope s_spared_level) := ⟨rfl, rfl, rfl, by decide +kernel, rfl, by decide +kernel, by decide +kernel⟩
theorem sc_Worst___init__ : FnScope ["self", "setting", "n", "limit"] ["self", "setting", "n"] (defScope s_Worst___init__) := ⟨rfl, rfl, rfl, by decide +kernel, rfl, by decide +kernel, by decide +kernel⟩
theorem sc_Worst_begin_of : FnScope ["self", "at", "many", "grown"] ["self", "at"] (defScope s_Worst_begin_of) := ⟨rfl, rfl, rfl, by decide +kernel, rfl, by decide +kernel, by decide +kernel⟩
theorem sc_Worst_whole_word : FnScope ["self", "at"] ["self", "at"] (defScope s_Worst_whole_word) := ⟨rfl, rfl, rfl, by decide +kernel, rfl, by decide +kernel, by decide +kernel⟩
theorem sc_Worst_hidden_word : FnScope ["self", "at", "letters", "limit", "pairs", "place", "deepest", "spot", "depth", "inner", "rounds"] ["self", "at"] (defScope s_Worst_hidden_word) := ⟨rfl, rfl, rfl, by decide +kernel, rfl, by decide +kernel, by decide +kernel⟩
theorem sc_Worst_told_word : FnScope ["self", "at", "letters", "limit", "deepest", "spot", "depth", "inner"] ["self", "at"] (defScope s_Worst_told_word) := ⟨rfl, rfl, rfl, by decide +kernel, rfl, by decide +kernel, by decide +kernel⟩
theorem sc_Worst_spared_word : FnScope ["self", "at", "letters", "depth", "inner"] ["self", "at"] (defScope s_Worst_spared_word) := ⟨rfl, rfl, rfl, by decide +kernel, rfl, by decide +kernel, by decide +kernel⟩
theorem sc_Worst_code_at : FnScope ["self", "at", "word"] ["self", "at"] (defScope s_Worst_code_at) := ⟨rfl, rfl, rfl, by decide +kernel, rfl, by decide +kernel, by decide +kernel⟩
theorem sc_Worst_place_of : FnScope ["self", "at", "low", "high", "middle"] ["self", "at"] (defScope s_Worst_place_of) := ⟨rfl, rfl, rfl, by decide +kernel, rfl, by decide +kernel, by decide +kernel⟩
theorem sc_worst_for : FnScope ["setting", "n", "at"] ["setting", "n", "at"] (defScope s_worst_for) := ⟨rfl, rfl, rfl, by decide +kernel, rfl, by decide +kernel, by decide +kernel⟩
theorem sc_worst_code : FnScope ["setting", "n", "i", "made"] ["setting", "n", "i"] (defScope s_worst_code) := ⟨rfl, rfl, rfl, by decide +kernel, rfl, by decide +kernel, by decide +kernel⟩
theorem sc_worst_place : FnScope ["setting", "n", "k", "made"] ["setting", "n", "k"] (defScope s_worst_place) := ⟨rfl, rfl, rfl, by decide +kernel, rfl, by decide +kernel, by decide +kernel⟩
theorem sc_worst_letter : FnScope ["setting", "n", "k", "made", "at", "inner"] ["setting", "n", "k"] (defScope s_worst_letter) := ⟨rfl, rfl, rfl, by decide +kernel, rfl, by decide +kernel, by decide +kernel⟩
theorem sc_are_counts : FnScope ["value", "number"] ["value"] (defScope s_are_counts) := ⟨rfl, rfl, rfl, by decide +kernel, rfl, by decide +kernel, by decide +kernel⟩
theorem sc_is_last : FnScope ["setting", "codes", "n"] ["setting", "codes", "n"] (defScope s_is_last) := ⟨rfl, rfl, rfl, by decide +kernel, rfl, by decide +kernel, by decide +kernel⟩
theorem sc_shows_levels : FnScope ["setting", "n", "value", "number"] ["setting", "n", "value"] (defScope s_shows_levels) := ⟨rfl, rfl, rfl, by decide +kernel, rfl, by decide +kernel, by decide +kernel⟩
theorem sc_law_pen : FnScope ["script"] ["script"] (defScope s_law_pen) := ⟨rfl, rfl, rfl, by decide +kernel, rfl, by decide +kernel, by decide +kernel⟩
theorem sc_law_draw : FnScope ["pen", "many", "digit", "at", "cell", "great", "mixed"] ["pen", "many"] (defScope s_law_draw) := ⟨rfl, rfl, rfl, by decide +kernel, rfl, by decide +kernel, by decide +kernel⟩
theorem sc_law_pick : FnScope ["pen", "some"] ["pen", "some"] (defScope s_law_pick) := ⟨rfl, rfl, rfl, by decide +kernel, rfl, by decide +kernel, by decide +kernel⟩
theorem sc_law_far : FnScope ["pen", "figures", "found", "turn"] ["pen", "figures"] (defScope s_law_far) := ⟨rfl, rfl, rfl, by decide +kernel, rfl, by decide +kernel, by decide +kernel⟩
theorem sc_law_plain : FnScope ["pen", "kind", "letters", "word"] ["pen"] (defScope s_law_plain) := ⟨rfl, rfl, rfl, by decide +kernel, rfl, by decide +kernel, by decide +kernel⟩
theorem sc_law_setting : FnScope ["plain", "kind", "letters", "word", "number"] ["plain"] (defScope s_law_setting) := ⟨rfl, rfl, rfl, by decide +kernel, rfl, by decide +kernel, by decide +kernel⟩
theorem sc_law_free_letters : FnScope ["plain", "many", "deepest", "size", "depth", "left", "found", "taken"] ["plain", "many", "deepest"] (defScope s_law_free_letters) := ⟨rfl, rfl, rfl, by decide +kernel, rfl, by decide +kernel, by decide +kernel⟩
theorem sc_law_letters : FnScope ["plain", "many", "kind", "letters", "word", "number"] ["plain", "many"] (defScope s_law_letters) := ⟨rfl, rfl, rfl, by decide +kernel, rfl, by decide +kernel, by decide +kernel⟩
theorem sc_law_greatest : FnScope ["plain", "codes", "kind", "letters", "word", "number"] ["plain", "codes"] (defScope s_law_greatest) := ⟨rfl, rfl, rfl, by decide +kernel, rfl, by decide +kernel, by decide +kernel⟩
theorem sc_law : FnScope ["script", "pen", "lap", "plain", "made", "size", "many", "few", "told", "turn", "at", "begin", "end", "word", "inner"] ["script"] (defScope s_law) := ⟨rfl, rfl, rfl, by decide +kernel, rfl, by decide +kernel, by decide +kernel⟩
/-- what the walk asks of the module's names -/
structure Txt (K : PySem.W.Frag) (mg : Str → Option Value) : Prop where
  n_abs : mg "abs" = none
  n_all : mg "all" = none
  n_bool : mg "bool" = none
  n_enumerate : mg "enumerate" = none
  n_int : mg "int" = none
  n_isinstance : mg "isinstance" = none
  n_len : mg "len" = none
  n_list : mg "list" = none
  n_max : mg "max" = none
  n_min : mg "min" = none
  n_range : mg "range" = none
  n_str : mg "str" = none
  n_sum : mg "sum" = none
  n_tuple : mg "tuple" = none
  n_zip : mg "zip" = none
  g_LEAST_LETTERS : ∃ u, mg "LEAST_LETTERS" = some u ∧ RelV (.int (2)) u
  g_MOST_FIGURES : ∃ u, mg "MOST_FIGURES" = some u ∧ RelV (.int (60)) u
  g_MOST_LETTERS : ∃ u, mg "MOST_LETTERS" = some u ∧ RelV (.int (26)) u
  g_MOST_SIZE : ∃ u, mg "MOST_SIZE" = some u ∧ RelV (.int (1000000000000000000000000000000)) u
  g_MOST_TEXT : ∃ u, mg "MOST_TEXT" = some u ∧ RelV (.int (5000)) u
  g_SIGNS : ∃ u, mg "SIGNS" = some u ∧ RelV (.str "abcdefghijklmnopqrstuvwxyz") u
  cl_lim : ∀ k : LimK, Cls K (cLim K k)
  na_told : ∀ k : LimK, NoAttr K (cLim K k) "told"
  na_longest : NoAttr K (cLim K .short) "longest"
  na_manyC : NoAttr K (cLim K .cleared) "many"
  na_manyS : NoAttr K (cLim K .standing) "many"
  mk_lim : ∀ k : LimK, Mk K (cLim K k) (He.ma K (cLim K k) "__init__")
  gc_lim : ∀ k : LimK, mg (limNm k) = some (.ref (cLim K k))
  isa_lim : ∀ k : LimK, Isa K (cLim K k) (He.ga K "Limit")
  gc_Limit : mg "Limit" = some (.ref (He.ga K "Limit"))
  gc_Counted : mg "Counted" = some (.ref (He.ga K "Counted"))
  most_s : ClsCon K (He.ga K "Short") "MOST" (.int 64)
  most_c : ClsCon K (He.ga K "Counted") "MOST" (.int 4096)
  cl_set : ∀ h : Bool, Cls K (cSet K h)
  na_letters : ∀ h : Bool, NoAttr K (cSet K h) "letters"
  na_own : ∀ h : Bool, NoAttr K (cSet K h) "own_limit"
  mk_set : ∀ h : Bool, Mk K (cSet K h) (He.ma K (cSet K h) "__init__")
  gc_Hidden : mg "Hidden" = some (.ref (cSet K true))
  gc_Told : mg "Told" = some (.ref (cSet K false))
  pr_limit : ∀ h : Bool, PropOf K (cSet K h) "limit" (He.ma K (cSet K h) "limit") (gtA K (cSet K h) "limit")
  gc_Setting : mg "Setting" = some (.ref (He.ga K "Setting"))
  gc_few : mg "Fewest" = some (.ref (He.ga K "Fewest"))
  cl_few : Cls K (He.ga K "Fewest")
  na_few_setting : NoAttr K (He.ga K "Fewest") "setting"
  mk_few : Mk K (He.ga K "Fewest") (He.ma K (He.ga K "Fewest") "__init__")
  ca_few : CallOf K (He.ga K "Fewest") (He.ma K (He.ga K "Fewest") "__call__")
  isa_k : ∀ k d : LimK, IsaB K (cLim K k) (cLim K d) (kEq k d)
  isa_set : ∀ h : Bool, Isa K (cSet K h) (He.ga K "Setting")
  cr_Setting : ClX.CRead K (He.ga K "Setting") (.type "type")
  cm_read : ClX.CMet K (He.ga K "Setting") (.type "type") "read" (He.ma K (He.ga K "Setting") "read") (He5.wf K (He.ga K "Setting") "classmethod" "read")
  cw_lim : ∀ k : LimK, ClsCon K (cLim K k) "WORD" (.str (limW k))
  cw_set : ∀ h : Bool, ClsCon K (cSet K h) "WORD" (.str (setWord h))
  gc_filled : mg "filled" = some (.ref (He.ga K "filled"))
  kp_filled : PySem.W.keepIn K (.ref (He.ga K "filled")) = true
  isa_hid : ∀ h : Bool, IsaB K (cSet K h) (cSet K true) h
  gc_mst : mg "Most" = some (.ref (He.ga K "Most"))
  cl_mst : Cls K (He.ga K "Most")
  na_mst_setting : NoAttr K (He.ga K "Most") "setting"
  mk_mst : Mk K (He.ga K "Most") (He.ma K (He.ga K "Most") "__init__")
  ca_mst : CallOf K (He.ga K "Most") (He.ma K (He.ga K "Most") "__call__")
  mt_wst_begin_of : Meth K (He.ga K "Worst") "begin_of" (He.ma K (He.ga K "Worst") "begin_of")
  mt_wst_whole_word : Meth K (He.ga K "Worst") "whole_word" (He.ma K (He.ga K "Worst") "whole_word")
  mt_wst_hidden_word : Meth K (He.ga K "Worst") "hidden_word" (He.ma K (He.ga K "Worst") "hidden_word")
  mt_wst_told_word : Meth K (He.ga K "Worst") "told_word" (He.ma K (He.ga K "Worst") "told_word")
  mt_wst_spared_word : Meth K (He.ga K "Worst") "spared_word" (He.ma K (He.ga K "Worst") "spared_word")
  mt_wst_code_at : Meth K (He.ga K "Worst") "code_at" (He.ma K (He.ga K "Worst") "code_at")
  na_wst_setting : NoAttr K (He.ga K "Worst") "setting"
  na_wst_size : NoAttr K (He.ga K "Worst") "size"
  na_wst_codes : NoAttr K (He.ga K "Worst") "codes"
  na_wst_spared : NoAttr K (He.ga K "Worst") "spared"
  cl_wst : Cls K (He.ga K "Worst")
  gc_wst : mg "Worst" = some (.ref (He.ga K "Worst"))
  mk_wst : Mk K (He.ga K "Worst") (He.ma K (He.ga K "Worst") "__init__")
  gc_level_of : mg "level_of" = some (.ref (He.ga K "level_of"))
  kp_level_of : PySem.W.keepIn K (.ref (He.ga K "level_of")) = true
  na_lvs_codes : NoAttr K (He.ga K "Levels") "codes"
  na_lvs_letters : NoAttr K (He.ga K "Levels") "letters"
  na_lvs_counts : NoAttr K (He.ga K "Levels") "counts"
  cl_lvs : Cls K (He.ga K "Levels")
  gc_lvs : mg "Levels" = some (.ref (He.ga K "Levels"))
  mk_lvs : Mk K (He.ga K "Levels") (He.ma K (He.ga K "Levels") "__init__")
  isa_lvs : IsaB K (He.ga K "Levels") (He.ga K "Levels") true
  mt_wst_place_of : Meth K (He.ga K "Worst") "place_of" (He.ma K (He.ga K "Worst") "place_of")

end Pt_pre
def gfs : List (PySem.W.Frag → Bool) := [
  fun K => (He.Fa.glo "is_int").ok K,
  fun K => (He.Fa.glo "number_of").ok K,
  fun K => (He.Fa.glo "need_setting").ok K,
  fun K => (He.Fa.glo "first_level").ok K,
  fun K => (He.Fa.glo "filled_but").ok K,
  fun K => (He.Fa.glo "letters_in").ok K,
  fun K => (He.Fa.glo "added").ok K,
  fun K => (He.Fa.glo "place_letter").ok K,
  fun K => (He.Fa.glo "digits_of").ok K,
  fun K => (He.Fa.glo "spared_level").ok K,
  fun K => (He.Fa.glo "_law_pen").ok K,
  fun K => (He.Fa.glo "_law_draw").ok K,
  fun K => (He.Fa.glo "_law_free_letters").ok K,
  fun K => (He.Fa.glo "_law_greatest").ok K,
  fun K => (He.Fa.glo "is_between").ok K,
  fun K => (He.Fa.glo "are_counts").ok K,
  fun K => (He.Fa.glo "_law_pick").ok K,
  fun K => (He.Fa.glo "_law_far").ok K,
  fun K => (He.Fa.glo "_law_letters").ok K,
  fun K => (He.Fa.glo "need_number").ok K,
  fun K => (He.Fa.glo "need_letters").ok K,
  fun K => (He.Fa.glo "spared_counts").ok K,
  fun K => (He.Fa.glo "is_loose").ok K,
  fun K => (He.Fa.glo "longest_code").ok K,
  fun K => (He.Fa.glo "_law_plain").ok K,
  fun K => (He.Fa.glo "need_size").ok K,
  fun K => (He.Fa.glo "limit_at").ok K,
  fun K => (He.Fa.glo "spared_for").ok K,
  fun K => (He.Fa.glo "greatest_of").ok K,
  fun K => (He.Fa.glo "fewest_of").ok K,
  fun K => (He.Fa.glo "setting_at").ok K,
  fun K => (He.Fa.glo "counts_for").ok K,
  fun K => (He.Fa.glo "told_fewest").ok K,
  fun K => (He.Fa.glo "least_of").ok K,
  fun K => (He.Fa.glo "need_told_of").ok K,
  fun K => (He.Fa.glo "most_of").ok K,
  fun K => (He.Fa.glo "fewest").ok K,
  fun K => (He.Fa.glo "is_last").ok K,
  fun K => (He.Fa.glo "told_most").ok K,
  fun K => (He.Fa.glo "_law_setting").ok K,
  fun K => (He.Fa.glo "shows_levels").ok K,
  fun K => (He.Fa.glo "most").ok K,
  fun K => (He.Fa.glo "worst_for").ok K,
  fun K => (He.Fa.glo "levels").ok K,
  fun K => (He.Fa.glo "worst_code").ok K,
  fun K => (He.Fa.glo "worst_place").ok K,
  fun K => (He.Fa.glo "worst_letter").ok K,
  fun K => (He.Fa.glo "law").ok K,
  fun K => (He.Fa.free "abs").ok K,
  fun K => (He.Fa.free "all").ok K,
  fun K => (He.Fa.free "bool").ok K,
  fun K => (He.Fa.free "enumerate").ok K,
  fun K => (He.Fa.free "int").ok K,
  fun K => (He.Fa.free "isinstance").ok K,
  fun K => (He.Fa.free "len").ok K,
  fun K => (He.Fa.free "list").ok K,
  fun K => (He.Fa.free "max").ok K,
  fun K => (He.Fa.free "min").ok K,
  fun K => (He.Fa.free "range").ok K,
  fun K => (He.Fa.free "str").ok K,
  fun K => (He.Fa.free "sum").ok K,
  fun K => (He.Fa.free "tuple").ok K,
  fun K => (He.Fa.free "zip").ok K,
  fun K => (He.Fa.int "LEAST_LETTERS" (2)).ok K,
  fun K => (He.Fa.int "MOST_FIGURES" (60)).ok K,
  fun K => (He.Fa.int "MOST_LETTERS" (26)).ok K,
  fun K => (He.Fa.int "MOST_SIZE" (1000000000000000000000000000000)).ok K,
  fun K => (He.Fa.int "MOST_TEXT" (5000)).ok K,
  fun K => (He.Fa.str "SIGNS" "abcdefghijklmnopqrstuvwxyz").ok K,
  fun K => (He.Fa.cls "Free").ok K,
  fun K => (He.Fa.cls "Short").ok K,
  fun K => (He.Fa.cls "Cleared").ok K,
  fun K => (He.Fa.cls "Standing").ok K,
  fun K => (He.Fa.noat "Free" "told").ok K,
  fun K => (He.Fa.noat "Short" "told").ok K,
  fun K => (He.Fa.noat "Cleared" "told").ok K,
  fun K => (He.Fa.noat "Standing" "told").ok K,
  fun K => (He.Fa.noat "Short" "longest").ok K,
  fun K => (He.Fa.noat "Cleared" "many").ok K,
  fun K => (He.Fa.noat "Standing" "many").ok K,
  fun K => (He.Fa.mkr "Free").ok K,
  fun K => (He.Fa.mkr "Short").ok K,
  fun K => (He.Fa.mkr "Cleared").ok K,
  fun K => (He.Fa.mkr "Standing").ok K,
  fun K => (He.Fa.glo "Free").ok K,
  fun K => (He.Fa.glo "Short").ok K,
  fun K => (He.Fa.glo "Cleared").ok K,
  fun K => (He.Fa.glo "Standing").ok K,
  fun K => isaB K "Free" "Limit",
  fun K => isaB K "Short" "Limit",
  fun K => isaB K "Cleared" "Limit",
  fun K => isaB K "Standing" "Limit",
  fun K => (He.Fa.glo "Limit").ok K,
  fun K => (He.Fa.glo "Counted").ok K,
  fun K => clsConB K "Short" "MOST" (.int 64),
  fun K => clsConB K "Counted" "MOST" (.int 4096),
  fun K => (He.Fa.cls "Hidden").ok K,
  fun K => (He.Fa.cls "Told").ok K,
  fun K => (He.Fa.noat "Hidden" "letters").ok K,
  fun K => (He.Fa.noat "Told" "letters").ok K,
  fun K => (He.Fa.noat "Hidden" "own_limit").ok K,
  fun K => (He.Fa.noat "Told" "own_limit").ok K,
  fun K => (He.Fa.mkr "Hidden").ok K,
  fun K => (He.Fa.mkr "Told").ok K,
  fun K => (He.Fa.glo "Hidden").ok K,
  fun K => (He.Fa.glo "Told").ok K,
  fun K => propB K "Hidden" "limit",
  fun K => propB K "Told" "limit",
  fun K => (He.Fa.glo "Setting").ok K,
  fun K => (He.Fa.glo "Fewest").ok K,
  fun K => (He.Fa.cls "Fewest").ok K,
  fun K => (He.Fa.noat "Fewest" "setting").ok K,
  fun K => (He.Fa.mkr "Fewest").ok K,
  fun K => callB K "Fewest",
  fun K => isaBB K "Free" "Free" true,
  fun K => isaBB K "Free" "Short" false,
  fun K => isaBB K "Free" "Cleared" false,
  fun K => isaBB K "Free" "Standing" false,
  fun K => isaBB K "Short" "Free" false,
  fun K => isaBB K "Short" "Short" true,
  fun K => isaBB K "Short" "Cleared" false,
  fun K => isaBB K "Short" "Standing" false,
  fun K => isaBB K "Cleared" "Free" false,
  fun K => isaBB K "Cleared" "Short" false,
  fun K => isaBB K "Cleared" "Cleared" true,
  fun K => isaBB K "Cleared" "Standing" false,
  fun K => isaBB K "Standing" "Free" false,
  fun K => isaBB K "Standing" "Short" false,
  fun K => isaBB K "Standing" "Cleared" false,
  fun K => isaBB K "Standing" "Standing" true,
  fun K => isaB K "Hidden" "Setting",
  fun K => isaB K "Told" "Setting",
  fun K => readB K "Setting",
  fun K => cmB K "Setting" "read",
  fun K => clsConB K "Free" "WORD" (.str "free"),
  fun K => clsConB K "Short" "WORD" (.str "short"),
  fun K => clsConB K "Cleared" "WORD" (.str "cleared"),
  fun K => clsConB K "Standing" "WORD" (.str "standing"),
  fun K => clsConB K "Hidden" "WORD" (.str "hidden"),
  fun K => clsConB K "Told" "WORD" (.str "told"),
  fun K => (He.Fa.glo "filled").ok K,
  fun K => PySem.W.keepIn K (.ref (He.ga K "filled")),
  fun K => isaBB K "Hidden" "Hidden" true,
  fun K => isaBB K "Told" "Hidden" false,
  fun K => (He.Fa.glo "Most").ok K,
  fun K => (He.Fa.cls "Most").ok K,
  fun K => (He.Fa.noat "Most" "setting").ok K,
  fun K => (He.Fa.mkr "Most").ok K,
  fun K => callB K "Most",
  fun K => (He.Fa.meth "Worst" "begin_of").ok K,
  fun K => (He.Fa.meth "Worst" "whole_word").ok K,
  fun K => (He.Fa.meth "Worst" "hidden_word").ok K,
  fun K => (He.Fa.meth "Worst" "told_word").ok K,
  fun K => (He.Fa.meth "Worst" "spared_word").ok K,
  fun K => (He.Fa.meth "Worst" "code_at").ok K,
  fun K => (He.Fa.noat "Worst" "setting").ok K,
  fun K => (He.Fa.noat "Worst" "size").ok K,
  fun K => (He.Fa.noat "Worst" "codes").ok K,
  fun K => (He.Fa.noat "Worst" "spared").ok K,
  fun K => (He.Fa.cls "Worst").ok K,
  fun K => (He.Fa.glo "Worst").ok K,
  fun K => (He.Fa.mkr "Worst").ok K,
  fun K => (He.Fa.glo "level_of").ok K,
  fun K => PySem.W.keepIn K (.ref (He.ga K "level_of")),
  fun K => (He.Fa.noat "Levels" "codes").ok K,
  fun K => (He.Fa.noat "Levels" "letters").ok K,
  fun K => (He.Fa.noat "Levels" "counts").ok K,
  fun K => (He.Fa.cls "Levels").ok K,
  fun K => (He.Fa.glo "Levels").ok K,
  fun K => (He.Fa.mkr "Levels").ok K,
  fun K => isaBB K "Levels" "Levels" true,
  fun K => (He.Fa.meth "Worst" "place_of").ok K]
def gd0 : GD := ⟨fun K => He.ga K "is_int", "is_int", "is_int", s_is_int, []⟩
def gd1 : GD := ⟨fun K => He.ga K "number_of", "number_of", "number_of", s_number_of, []⟩
def gd2 : GD := ⟨fun K => He.ma K (cLim K .free) "__init__", "__init__", "Free.__init__", s_Free___init__, []⟩
def gd3 : GD := ⟨fun K => He.ga K "need_setting", "need_setting", "need_setting", s_need_setting, []⟩
def gd4 : GD := ⟨fun K => He.ga K "first_level", "first_level", "first_level", s_first_level, []⟩
def gd5 : GD := ⟨fun K => He.ga K "filled_but", "filled_but", "filled_but", s_filled_but, []⟩
def gd6 : GD := ⟨fun K => He.ga K "letters_in", "letters_in", "letters_in", s_letters_in, []⟩
def gd7 : GD := ⟨fun K => He.ga K "added", "added", "added", s_added, []⟩
def gd8 : GD := ⟨fun K => He.ma K (He.ga K "Levels") "__init__", "__init__", "Levels.__init__", s_Levels___init__, []⟩
def gd9 : GD := ⟨fun K => He.ga K "place_letter", "place_letter", "place_letter", s_place_letter, []⟩
def gd10 : GD := ⟨fun K => He.ga K "digits_of", "digits_of", "digits_of", s_digits_of, []⟩
def gd11 : GD := ⟨fun K => He.ga K "spared_level", "spared_level", "spared_level", s_spared_level, []⟩
def gd12 : GD := ⟨fun K => He.ga K "_law_pen", "_law_pen", "_law_pen", s_law_pen, []⟩
def gd13 : GD := ⟨fun K => He.ga K "_law_draw", "_law_draw", "_law_draw", s_law_draw, []⟩
def gd14 : GD := ⟨fun K => He.ga K "_law_free_letters", "_law_free_letters", "_law_free_letters", s_law_free_letters, []⟩
def gd15 : GD := ⟨fun K => He.ga K "_law_greatest", "_law_greatest", "_law_greatest", s_law_greatest, []⟩
def gd16 : GD := ⟨fun K => He.ga K "is_between", "is_between", "is_between", s_is_between, []⟩
def gd17 : GD := ⟨fun K => He.ma K (He.ga K "Most") "__init__", "__init__", "Most.__init__", s_Most___init__, []⟩
def gd18 : GD := ⟨fun K => He.ma K (He.ga K "Fewest") "__init__", "__init__", "Fewest.__init__", s_Fewest___init__, []⟩
def gd19 : GD := ⟨fun K => He.ga K "are_counts", "are_counts", "are_counts", s_are_counts, []⟩
def gd20 : GD := ⟨fun K => He.ga K "_law_pick", "_law_pick", "_law_pick", s_law_pick, []⟩
def gd21 : GD := ⟨fun K => He.ga K "_law_far", "_law_far", "_law_far", s_law_far, []⟩
def gd22 : GD := ⟨fun K => He.ga K "_law_letters", "_law_letters", "_law_letters", s_law_letters, []⟩
def gd23 : GD := ⟨fun K => He.ga K "need_number", "need_number", "need_number", s_need_number, []⟩
def gd24 : GD := ⟨fun K => He.ga K "need_letters", "need_letters", "need_letters", s_need_letters, []⟩
def gd25 : GD := ⟨fun K => He.ma K (cLim K .short) "__init__", "__init__", "Short.__init__", s_Short___init__, []⟩
def gd26 : GD := ⟨fun K => He.ma K (cLim K .cleared) "__init__", "__init__", "Cleared.__init__", s_Cleared___init__, []⟩
def gd27 : GD := ⟨fun K => He.ma K (cLim K .standing) "__init__", "__init__", "Standing.__init__", s_Standing___init__, []⟩
def gd28 : GD := ⟨fun K => He.ga K "spared_counts", "spared_counts", "spared_counts", s_spared_counts, []⟩
def gd29 : GD := ⟨fun K => He.ga K "is_loose", "is_loose", "is_loose", s_is_loose, []⟩
def gd30 : GD := ⟨fun K => He.ga K "longest_code", "longest_code", "longest_code", s_longest_code, []⟩
def gd31 : GD := ⟨fun K => He.ma K (He.ga K "Worst") "hidden_word", "hidden_word", "Worst.hidden_word", s_Worst_hidden_word, []⟩
def gd32 : GD := ⟨fun K => He.ma K (He.ga K "Worst") "told_word", "told_word", "Worst.told_word", s_Worst_told_word, []⟩
def gd33 : GD := ⟨fun K => He.ma K (He.ga K "Worst") "spared_word", "spared_word", "Worst.spared_word", s_Worst_spared_word, []⟩
def gd34 : GD := ⟨fun K => He.ga K "_law_plain", "_law_plain", "_law_plain", s_law_plain, []⟩
def gd35 : GD := ⟨fun K => He.ga K "need_size", "need_size", "need_size", s_need_size, []⟩
def gd36 : GD := ⟨fun K => He.ma K (He.ga K "Worst") "whole_word", "whole_word", "Worst.whole_word", s_Worst_whole_word, []⟩
def gd37 : GD := ⟨fun K => He.ga K "limit_at", "limit_at", "limit_at", s_limit_at, []⟩
def gd38 : GD := ⟨fun K => He.ga K "spared_for", "spared_for", "spared_for", s_spared_for, []⟩
def gd39 : GD := ⟨fun K => He.ga K "greatest_of", "greatest_of", "greatest_of", s_greatest_of, []⟩
def gd40 : GD := ⟨fun K => He.ga K "fewest_of", "fewest_of", "fewest_of", s_fewest_of, []⟩
def gd41 : GD := ⟨fun K => He.ga K "setting_at", "setting_at", "setting_at", s_setting_at, []⟩
def gd42 : GD := ⟨fun K => He.ga K "counts_for", "counts_for", "counts_for", s_counts_for, []⟩
def gd43 : GD := ⟨fun K => He.ga K "told_fewest", "told_fewest", "told_fewest", s_told_fewest, []⟩
def gd44 : GD := ⟨fun K => He5.wf K (He.ga K "Setting") "classmethod" "read", "read", "Setting.read", s_Setting_read, []⟩
def gd45 : GD := ⟨fun K => He.ga K "least_of", "least_of", "least_of", s_least_of, []⟩
def gd46 : GD := ⟨fun K => He.ma K (He.ga K "Fewest") "__call__", "__call__", "Fewest.__call__", s_Fewest___call__, []⟩
def gd47 : GD := ⟨fun K => He.ma K (He.ga K "Worst") "begin_of", "begin_of", "Worst.begin_of", s_Worst_begin_of, []⟩
def gd48 : GD := ⟨fun K => He.ga K "need_told_of", "need_told_of", "need_told_of", s_need_told_of, []⟩
def gd49 : GD := ⟨fun K => He.ga K "most_of", "most_of", "most_of", s_most_of, []⟩
def gd50 : GD := ⟨fun K => He.ga K "fewest", "fewest", "fewest", s_fewest, []⟩
def gd51 : GD := ⟨fun K => He.ma K (He.ga K "Worst") "code_at", "code_at", "Worst.code_at", s_Worst_code_at, []⟩
def gd52 : GD := ⟨fun K => He.ga K "is_last", "is_last", "is_last", s_is_last, []⟩
def gd53 : GD := ⟨fun K => He.ga K "told_most", "told_most", "told_most", s_told_most, []⟩
def gd54 : GD := ⟨fun K => He.ma K (He.ga K "Worst") "place_of", "place_of", "Worst.place_of", s_Worst_place_of, []⟩
def gd55 : GD := ⟨fun K => He.ga K "_law_setting", "_law_setting", "_law_setting", s_law_setting, []⟩
def gd56 : GD := ⟨fun K => He.ma K (He.ga K "Most") "__call__", "__call__", "Most.__call__", s_Most___call__, []⟩
def gd57 : GD := ⟨fun K => He.ma K (He.ga K "Worst") "__init__", "__init__", "Worst.__init__", s_Worst___init__, []⟩
def gd58 : GD := ⟨fun K => He.ga K "shows_levels", "shows_levels", "shows_levels", s_shows_levels, []⟩
def gd59 : GD := ⟨fun K => He.ga K "most", "most", "most", s_most, []⟩
def gd60 : GD := ⟨fun K => He.ga K "worst_for", "worst_for", "worst_for", s_worst_for, []⟩
def gd61 : GD := ⟨fun K => He.ga K "levels", "levels", "levels", s_levels, []⟩
def gd62 : GD := ⟨fun K => He.ga K "worst_code", "worst_code", "worst_code", s_worst_code, []⟩
def gd63 : GD := ⟨fun K => He.ga K "worst_place", "worst_place", "worst_place", s_worst_place, []⟩
def gd64 : GD := ⟨fun K => He.ga K "worst_letter", "worst_letter", "worst_letter", s_worst_letter, []⟩
def gd65 : GD := ⟨fun K => He.ga K "law", "law", "law", s_law, []⟩
def gd66 : GD := ⟨fun K => gtA K (cSet K true) "limit", "limit", "Setting.limit", s_Setting_limit, []⟩
def gd67 : GD := ⟨fun K => gtA K (cSet K false) "limit", "limit", "Setting.limit", s_Setting_limit, []⟩
def gd68 : GD := ⟨fun K => He.ma K (cSet K true) "__init__", "__init__", "Setting.__init__", s_Setting___init__, [.non]⟩
def gd69 : GD := ⟨fun K => He.ma K (cSet K false) "__init__", "__init__", "Setting.__init__", s_Setting___init__, [.non]⟩
def gd70 : GD := ⟨fun K => He.ga K "filled", "filled", "filled", s_filled, [.non]⟩
def gd71 : GD := ⟨fun K => He.ga K "level_of", "level_of", "level_of", s_level_of, [.non]⟩
def gds : List GD := [gd0, gd1, gd2, gd3, gd4, gd5, gd6, gd7, gd8, gd9, gd10, gd11, gd12, gd13, gd14, gd15, gd16, gd17, gd18, gd19, gd20, gd21, gd22, gd23, gd24, gd25, gd26, gd27, gd28, gd29, gd30, gd31, gd32, gd33, gd34, gd35, gd36, gd37, gd38, gd39, gd40, gd41, gd42, gd43, gd44, gd45, gd46, gd47, gd48, gd49, gd50, gd51, gd52, gd53, gd54, gd55, gd56, gd57, gd58, gd59, gd60, gd61, gd62, gd63, gd64, gd65, gd66, gd67, gd68, gd69, gd70, gd71]
abbrev RR : PySem.W.OpenRow := PySem.W.OpenLaw.row PySem.Challenge.rw_learntbooks_k56_whole_great_lengths
/-- the addresses that are reached, each once: seen is a row of bits -/
def newA : List Addr → Nat → List Addr → Nat × List Addr
  | [], seen, acc => (seen, acc)
  | a :: r, seen, acc => bif Nat.beq ((seen >>> a) % 2) 1 then newA r seen acc else newA r (seen ||| (1 <<< a)) (a :: acc)
def bfsA (g : Addr → Option Obj) : Nat → Nat → List Addr → List Addr
  | 0, _, fr => fr
  | n + 1, seen, fr => match newA (fr.flatMap fun a => match g a with | some o => He.refsD o | none => []) seen [] with
    | (seen', new) => fr ++ bfsA g n seen' new
def asL (g : Addr → Option Obj) (n : Nat) : List Addr := bfsA g n (1 <<< mainGlobals) [mainGlobals]
def gobsC (n : Nat) (fs : List (PySem.W.Frag → Bool)) (ds : List GD) (g : Addr → Option Obj) : GV := gobs fs ds (He.frG g (cStatics :: asL g n))
def ghookC (n : Nat) (fs : List (PySem.W.Frag → Bool)) (ds : List GD) : PySem.W.Hook where
  α := GV
  val := fun _ => gval ds
  obs := fun sh => gobsC n fs ds sh.heap.get?
  says := fun _ hp => ∃ K : PySem.W.Frag, K.In hp ∧ GSays fs ds K
  of := fun _ _ q => ⟨_, He.frG_in, q⟩
  keeps := fun _ _ _ ⟨K, i, c⟩ q => ⟨K, PySem.W.Frag.In.keeps i q, c⟩
theorem gobsC_eq {n : Nat} {fs : List (PySem.W.Frag → Bool)} {ds : List GD} {g : Addr → Option Obj} {sh : Shared} (h : ∀ a, g a = sh.heap.get? a) : gobsC n fs ds g = (ghookC n fs ds).obs sh := by
  obtain rfl : g = sh.heap.get? := funext h
  rfl
abbrev hk : PySem.W.Hook := ghookC 6 gfs gds
def ob (s : PySem.W.SharedT) : GV := gobsC 6 gfs gds (HandSHeadRun.getT s)
theorem ob_eq (s : PySem.W.SharedT) : ob s = hk.obs s.abs := gobsC_eq (HandSHeadRun.getT_eq s)
def loose0 : List PySem.Str := ["_wall", "LearnError", "BadInput", "Refused", "BadLetters", "BadLimit", "BadNumber", "BadSetting", "BadSign", "BadText", "NoPlace", "TooMany", "Unfit", "SIGNS", "LEAST_LETTERS", "MOST_LETTERS", "MOST_TEXT", "MOST_SIZE", "MOST_FIGURES", "is_int", "is_between", "need_number", "need_size", "need_letters", "signs_of", "need_text", "number_of", "Limit", "count_words", "Counted"]
def loose1 : List PySem.Str := ["Free", "Short", "Cleared", "Standing", "limit_at", "Shelf", "works", "row_by", "need_setting", "need_limit", "Setting", "Hidden", "Told", "setting_at", "first_level", "filled", "filled_but", "letters_in", "added", "spared_counts", "spared_for", "is_loose", "counts_for", "least_of", "need_told", "need_told_of", "most_of", "longest_code", "greatest_of", "fewest_of"]
def loose2 : List PySem.Str := ["told_most", "told_fewest", "Most", "Fewest", "Levels", "most", "fewest", "levels", "place_letter", "digits_of", "level_of", "spared_level", "Worst", "worst_for", "worst_code", "worst_place", "worst_letter", "are_counts", "is_last", "shows_levels", "_law_pen", "_law_draw", "_law_pick", "_law_far", "_law_plain", "_law_setting", "_law_free_letters", "_law_letters", "_law_greatest"]
def loose : List PySem.Str := loose0 ++ loose1 ++ loose2
theorem run (w : World) : HandSHeadRun.RunEq RR (PySem.W.view RR.prog [98]) hk ob 40000 loose w := by
  intro os
  kernel_rfl
section Pt_augs
/-! ### x op= e by the slot -/
section
variable {D : Ends} {H : Hp} {te : TE} {ti : TIp} {x : V} {rs : L2.St} {a0 a1 a2 a3 a4 a5 a6 a7 a8 a9 a10 a11 a12 a13 : Option V}
theorem w_aug0 (q : te (some x :: rs) H fun y H1 => ti x y H1 fun z H2 => D.nx (some z :: rs) H2) : tAug 0 te ti D (some x :: rs) H := ⟨x, rfl, q⟩
theorem w_aug1 (q : te (a0 :: some x :: rs) H fun y H1 => ti x y H1 fun z H2 => D.nx (a0 :: some z :: rs) H2) : tAug 1 te ti D (a0 :: some x :: rs) H := ⟨x, rfl, q⟩
theorem w_aug2 (q : te (a0 :: a1 :: some x :: rs) H fun y H1 => ti x y H1 fun z H2 => D.nx (a0 :: a1 :: some z :: rs) H2) : tAug 2 te ti D (a0 :: a1 :: some x :: rs) H := ⟨x, rfl, q⟩
theorem w_aug3 (q : te (a0 :: a1 :: a2 :: some x :: rs) H fun y H1 => ti x y H1 fun z H2 => D.nx (a0 :: a1 :: a2 :: some z :: rs) H2) : tAug 3 te ti D (a0 :: a1 :: a2 :: some x :: rs) H := ⟨x, rfl, q⟩
theorem w_aug4 (q : te (a0 :: a1 :: a2 :: a3 :: some x :: rs) H fun y H1 => ti x y H1 fun z H2 => D.nx (a0 :: a1 :: a2 :: a3 :: some z :: rs) H2) : tAug 4 te ti D (a0 :: a1 :: a2 :: a3 :: some x :: rs) H := ⟨x, rfl, q⟩
theorem w_aug5 (q : te (a0 :: a1 :: a2 :: a3 :: a4 :: some x :: rs) H fun y H1 => ti x y H1 fun z H2 => D.nx (a0 :: a1 :: a2 :: a3 :: a4 :: some z :: rs) H2) : tAug 5 te ti D (a0 :: a1 :: a2 :: a3 :: a4 :: some x :: rs) H := ⟨x, rfl, q⟩
theorem w_aug6 (q : te (a0 :: a1 :: a2 :: a3 :: a4 :: a5 :: some x :: rs) H fun y H1 => ti x y H1 fun z H2 => D.nx (a0 :: a1 :: a2 :: a3 :: a4 :: a5 :: some z :: rs) H2) : tAug 6 te ti D (a0 :: a1 :: a2 :: a3 :: a4 :: a5 :: some x :: rs) H := ⟨x, rfl, q⟩
theorem w_aug7 (q : te (a0 :: a1 :: a2 :: a3 :: a4 :: a5 :: a6 :: some x :: rs) H fun y H1 => ti x y H1 fun z H2 => D.nx (a0 :: a1 :: a2 :: a3 :: a4 :: a5 :: a6 :: some z :: rs) H2) : tAug 7 te ti D (a0 :: a1 :: a2 :: a3 :: a4 :: a5 :: a6 :: some x :: rs) H := ⟨x, rfl, q⟩
theorem w_aug8 (q : te (a0 :: a1 :: a2 :: a3 :: a4 :: a5 :: a6 :: a7 :: some x :: rs) H fun y H1 => ti x y H1 fun z H2 => D.nx (a0 :: a1 :: a2 :: a3 :: a4 :: a5 :: a6 :: a7 :: some z :: rs) H2) : tAug 8 te ti D (a0 :: a1 :: a2 :: a3 :: a4 :: a5 :: a6 :: a7 :: some x :: rs) H := ⟨x, rfl, q⟩
theorem w_aug9 (q : te (a0 :: a1 :: a2 :: a3 :: a4 :: a5 :: a6 :: a7 :: a8 :: some x :: rs) H fun y H1 => ti x y H1 fun z H2 => D.nx (a0 :: a1 :: a2 :: a3 :: a4 :: a5 :: a6 :: a7 :: a8 :: some z :: rs) H2) : tAug 9 te ti D (a0 :: a1 :: a2 :: a3 :: a4 :: a5 :: a6 :: a7 :: a8 :: some x :: rs) H := ⟨x, rfl, q⟩
theorem w_aug10 (q : te (a0 :: a1 :: a2 :: a3 :: a4 :: a5 :: a6 :: a7 :: a8 :: a9 :: some x :: rs) H fun y H1 => ti x y H1 fun z H2 => D.nx (a0 :: a1 :: a2 :: a3 :: a4 :: a5 :: a6 :: a7 :: a8 :: a9 :: some z :: rs) H2) : tAug 10 te ti D (a0 :: a1 :: a2 :: a3 :: a4 :: a5 :: a6 :: a7 :: a8 :: a9 :: some x :: rs) H := ⟨x, rfl, q⟩
theorem w_aug11 (q : te (a0 :: a1 :: a2 :: a3 :: a4 :: a5 :: a6 :: a7 :: a8 :: a9 :: a10 :: some x :: rs) H fun y H1 => ti x y H1 fun z H2 => D.nx (a0 :: a1 :: a2 :: a3 :: a4 :: a5 :: a6 :: a7 :: a8 :: a9 :: a10 :: some z :: rs) H2) : tAug 11 te ti D (a0 :: a1 :: a2 :: a3 :: a4 :: a5 :: a6 :: a7 :: a8 :: a9 :: a10 :: some x :: rs) H := ⟨x, rfl, q⟩
theorem w_aug12 (q : te (a0 :: a1 :: a2 :: a3 :: a4 :: a5 :: a6 :: a7 :: a8 :: a9 :: a10 :: a11 :: some x :: rs) H fun y H1 => ti x y H1 fun z H2 => D.nx (a0 :: a1 :: a2 :: a3 :: a4 :: a5 :: a6 :: a7 :: a8 :: a9 :: a10 :: a11 :: some z :: rs) H2) : tAug 12 te ti D (a0 :: a1 :: a2 :: a3 :: a4 :: a5 :: a6 :: a7 :: a8 :: a9 :: a10 :: a11 :: some x :: rs) H := ⟨x, rfl, q⟩
theorem w_aug13 (q : te (a0 :: a1 :: a2 :: a3 :: a4 :: a5 :: a6 :: a7 :: a8 :: a9 :: a10 :: a11 :: a12 :: some x :: rs) H fun y H1 => ti x y H1 fun z H2 => D.nx (a0 :: a1 :: a2 :: a3 :: a4 :: a5 :: a6 :: a7 :: a8 :: a9 :: a10 :: a11 :: a12 :: some z :: rs) H2) : tAug 13 te ti D (a0 :: a1 :: a2 :: a3 :: a4 :: a5 :: a6 :: a7 :: a8 :: a9 :: a10 :: a11 :: a12 :: some x :: rs) H := ⟨x, rfl, q⟩
end
theorem pe_fldK {K : PySem.W.Frag} {X : Cx} {e : Expr} {f : Str} {ta : TE} {pos : Pos} (hK : X.K = K) (he : PE X e ta) (hb : attributeBase e f X.env (eval e X.env) = eval e X.env) : PE X (.Attribute e f pos) (tFld K ta f) := hK ▸ pe_fld he hb
theorem cr_sumK {K : PySem.W.Frag} {X : Cx} (hK : X.K = K) (hc : X.calm = true) : CallR X (.builtin "sum") (rSum K) := hK ▸ cr_sum hc
theorem cr_maxK {K : PySem.W.Frag} {X : Cx} (hK : X.K = K) (hc : X.calm = true) : CallR X (.builtin "max") (rMax K) := hK ▸ cr_max hc
theorem cr_minK {K : PySem.W.Frag} {X : Cx} (hK : X.K = K) (hc : X.calm = true) : CallR X (.builtin "min") (rMin K) := hK ▸ cr_min hc

end Pt_augs
section Pt_chk
/-! ### checks.py -/
def spIsInt : Sp := fun vs H Q _ => ∃ x n, vs = [x] ∧ BV H x n ∧ Q (.bl (isIntV x)) H
def spBetween : Sp := fun vs H Q _ => ∃ x n lo hi, vs = [x, .int lo, .int hi] ∧ BV H x n ∧ Q (.bl (betV lo hi x)) H
def spNeedL : Sp := fun vs H Q _ => ∃ q : Int, vs = [.int q] ∧ 2 ≤ q ∧ q ≤ 26 ∧ Q .non H
section
variable {P : Program} {w : World} {K : PySem.W.Frag} {mg : Str → Option Value} {base : Heap}
theorem d_is_int (T : Txt K mg) (F : FD K mg "is_int" s_is_int) : Dn P w K mg base 1 "is_int" s_is_int ["value"] (spIsInt) := by
  refine dn_of F (fun _ _ _ _ _ _ us hl => match us, hl with | [_], _ => rfl) sc_is_int (fun vs H Q E h => ?_) (fun fa cdv A outer s H vs Q E hr h => ?_)
  · obtain ⟨x, n, rfl, _⟩ := h
    rfl
  · obtain ⟨x, n, rfl, b, k⟩ := h
    refine ⟨_, PSs.nox (pss_one (ps_ret (pe_and (pe_callB call_isi (by rfl) T.n_isinstance (by decide +kernel) (pa_cons (pv 0) (pa_cons (pe_bltn (v := .ty "int") (by rfl) T.n_int (by decide +kernel) rfl) pa_nil))) (pe_one (pe_not (pe_callB call_isi (by rfl) T.n_isinstance (by decide +kernel) (pa_cons (pv 0) (pa_cons (pe_bltn (v := .ty "bool") (by rfl) T.n_bool (by decide +kernel) rfl) pa_nil)))))))), ?_⟩
    refine w_start (σ := [some x]) rfl ?_
    repeat walk_at "st"
    refine w_isiInt b ?_
    cases b <;> (repeat walk_at "st")
    all_goals (first | exact k | (refine w_isiBool (by first | exact .int _ | exact .bl _) ?_; repeat walk_at "st"; exact k))
theorem d_is_between (T : Txt K mg) (F : FD K mg "is_between" s_is_between) (c_is_int : Dn P w K mg base 1 "is_int" s_is_int ["value"] (spIsInt)) : Dn P w K mg base 2 "is_between" s_is_between ["value", "least", "most"] (spBetween) := by
  refine dn_of F (fun _ _ _ _ _ _ us hl => match us, hl with | [_, _, _], _ => rfl) sc_is_between (fun vs H Q E h => ?_) (fun fa cdv A outer s H vs Q E hr h => ?_)
  · obtain ⟨x, n, lo, hi, rfl, _⟩ := h
    rfl
  · obtain ⟨x, n, lo, hi, rfl, b, k⟩ := h
    refine ⟨_, PSs.nox (pss_one (ps_ret (pe_and (pe_d c_is_int hr (by decide) rfl (pa_cons (pv 0) pa_nil)) (pe_one (pe_chain op_le op_le (pv 1) (pv 0) (pv 2)))))), ?_⟩
    refine w_start (σ := [some x, some (.int lo), some (.int hi)]) rfl ?_
    repeat walk_at "st"
    refine ⟨x, n, rfl, b, ?_⟩
    cases b <;> (repeat walk_at "st")
    all_goals try exact k
    rename_i i
    refine w_ite (fun h1 => ?_) (fun h1 => ?_)
    · repeat walk_at "st"
      rw [show betV lo hi (.int i) = decide (i ≤ hi) by show (decide (lo ≤ i) && decide (i ≤ hi)) = _; rw [decide_eq_true h1, Bool.true_and]] at k
      exact k
    · repeat walk_at "st"
      rw [show betV lo hi (.int i) = false by show (decide (lo ≤ i) && decide (i ≤ hi)) = _; rw [decide_eq_false h1, Bool.false_and]] at k
      exact k
theorem d_need_letters (T : Txt K mg) (F : FD K mg "need_letters" s_need_letters) (c_is_between : Dn P w K mg base 2 "is_between" s_is_between ["value", "least", "most"] (spBetween)) : Dn P w K mg base 3 "need_letters" s_need_letters ["value"] (spNeedL) := by
  refine dn_of F (fun _ _ _ _ _ _ us hl => match us, hl with | [_], _ => rfl) sc_need_letters (fun vs H Q E h => ?_) (fun fa cdv A outer s H vs Q E hr h => ?_)
  · obtain ⟨q, rfl, _⟩ := h
    rfl
  · obtain ⟨q, rfl, h1, h2, k⟩ := h
    refine ⟨_, PSs.nox (pss_one (ps_if (pt_not (pt_val (pe_d c_is_between hr (by decide) rfl (pa_cons (pv 0) (pa_cons (pe_gv rfl T.g_LEAST_LETTERS) (pa_cons (pe_gv rfl T.g_MOST_LETTERS) pa_nil)))) (by intro _; rfl)))
 (pss_one ps_never)
 pss_nil)), ?_⟩
    refine w_start (σ := [some (.int q)]) rfl ?_
    repeat walk_at "st"
    refine ⟨.int q, "int", 2, 26, rfl, .int q, ?_⟩
    have e : betV 2 26 (.int q) = true := by
      show (decide (2 ≤ q) && decide (q ≤ 26)) = true
      rw [decide_eq_true h1, decide_eq_true h2]
      rfl
    repeat walk_at "st"
    refine w_iteF (by rw [e]; rfl) ?_
    repeat walk_at "st"
    exact k
/-- the letters a to z -/
def abcL : List Nat := (List.range 26).map (97 + ·)
theorem abc_S : (("abcdefghijklmnopqrstuvwxyz" : Str)) = SX.S abcL := by decide +kernel
def spSigns : Sp := fun vs H Q _ => ∃ q : Int, vs = [.int q] ∧ 2 ≤ q ∧ q ≤ 26 ∧ Q (.str (SX.S (abcL.take q.toNat))) H
theorem d_signs_of (T : Txt K mg) (F : FD K mg "signs_of" s_signs_of) (c_need_letters : Dn P w K mg base 3 "need_letters" s_need_letters ["value"] (spNeedL)) : Dn P w K mg base 4 "signs_of" s_signs_of ["letters"] (spSigns) := by
  refine dn_of F (fun _ _ _ _ _ _ us hl => match us, hl with | [_], _ => rfl) sc_signs_of (fun vs H Q E h => ?_) (fun fa cdv A outer s H vs Q E hr h => ?_)
  · obtain ⟨q, rfl, _⟩ := h
    rfl
  · obtain ⟨q, rfl, h1, h2, k⟩ := h
    refine ⟨_, PSs.nox (pss_cons (ps_expr (pe_d c_need_letters hr (by decide) rfl (pa_cons (pv 0) pa_nil)))
 (pss_one (ps_ret (pe_slice sl_str (pe_gv rfl T.g_SIGNS) po_none (po_some (pv 0)))))), ?_⟩
    refine w_start (σ := [some (.int q)]) rfl ?_
    repeat walk_at "st"
    refine ⟨q, rfl, h1, h2, ?_⟩
    repeat walk_at "st"
    rw [abc_S, cutS_to (by omega)]
    exact k
end

end Pt_chk
section Pt_cod
/-! ### the coder, plainly -/
abbrev Wd := List Nat
/-- a setting -/
structure Sg where
  hid : Bool
  q : Nat
  lk : LimK
  ln : Int
def letsK (k : LimK) (n g z : Int) : Bool := match k with
  | .short => decide (z ≤ n)
  | .standing => decide (g < n)
  | _ => true
def endsK (k : LimK) (n g : Int) : Bool := match k with
  | .cleared => decide (g ≥ n)
  | _ => false
def firstW (S : Sg) : List Wd := if S.hid = true then (abcL.take S.q).map fun c => [c] else [[]]
def szOf (S : Sg) (w : Wd) : Int := if S.hid = true then w.length else w.length + 1
/-- a book while it is coded -/
structure Shf where
  ws : List Wd
  g : Int
def wgrow (S : Sg) (st : Shf) (w : Wd) : Bool := !decide (w ∈ st.ws) && letsK S.lk S.ln st.g (szOf S w)
def growS (S : Sg) (st : Shf) (w : Wd) : Shf := if endsK S.lk S.ln (st.g + 1) = true then ⟨firstW S, 0⟩ else ⟨st.ws ++ [w], st.g + 1⟩
/-- the longest beginning of r that is known: from s letters on -/
def lsz (L : List Wd) (r : Wd) : Nat → Nat → Nat
  | 0, s => s
  | f + 1, s => if s < r.length ∧ r.take (s + 1) ∈ L then lsz L r f (s + 1) else s
theorem lsz_le (L : List Wd) (r : Wd) : ∀ f s, s ≤ r.length → lsz L r f s ≤ r.length
  | 0, s, h => h
  | f + 1, s, h => by
    unfold lsz
    by_cases c : s < r.length ∧ r.take (s + 1) ∈ L
    · rw [if_pos c]
      exact lsz_le L r f (s + 1) c.1
    · rw [if_neg c]
      exact h
theorem lsz_ge (L : List Wd) (r : Wd) : ∀ f s, s ≤ lsz L r f s
  | 0, s => Nat.le_refl s
  | f + 1, s => by
    unfold lsz
    by_cases c : s < r.length ∧ r.take (s + 1) ∈ L
    · rw [if_pos c]
      exact Nat.le_trans (Nat.le_succ s) (lsz_ge L r f (s + 1))
    · rw [if_neg c]
      exact Nat.le_refl s
theorem lsz_in (L : List Wd) (r : Wd) : ∀ f s, r.take s ∈ L → r.take (lsz L r f s) ∈ L
  | 0, s, h => h
  | f + 1, s, h => by
    unfold lsz
    by_cases c : s < r.length ∧ r.take (s + 1) ∈ L
    · rw [if_pos c]
      exact lsz_in L r f (s + 1) c.2
    · rw [if_neg c]
      exact h
def bas (S : Sg) : Nat := if S.hid = true then 1 else 0
def lgst (S : Sg) (L : List Wd) (r : Wd) : Nat := lsz L r (r.length - bas S) (bas S)
structure Stp where
  w : Wd
  l : Wd
  n : Nat
  g : Wd
/-- one code: what it tells, the book behind it, the rest of the text -/
def step1 (S : Sg) (st : Shf) (r : Wd) : Stp × Shf × Wd :=
  let n := lgst S st.ws r
  let w := r.take n
  let l := (r.drop n).take 1
  let b := !decide (l = []) && wgrow S st (w ++ l)
  (⟨w, l, st.ws.idxOf w, if b = true then w ++ l else []⟩, if b = true then growS S st (w ++ l) else st, r.drop (if S.hid = true then n else n + 1))
def stepsF (S : Sg) : Nat → Shf → Wd → List Stp
  | 0, _, _ => []
  | f + 1, st, r => if r = [] then [] else (step1 S st r).1 :: stepsF S f (step1 S st r).2.1 (step1 S st r).2.2
def stepsOf (S : Sg) (r : Wd) : List Stp := stepsF S r.length ⟨firstW S, 0⟩ r
def rowW (S : Sg) (x : Stp) : Wd := if S.hid = true then x.w else x.w ++ x.l
def rowOf (S : Sg) (r : Wd) : List Wd := (stepsOf S r).map (rowW S)
/-! ### .. in the heap -/
def limFs : LimK → Int → List (Str × V)
  | .free, _ => [("told", .non)]
  | .short, n => [("told", .int n), ("longest", .int n)]
  | _, n => [("told", .int n), ("many", .int n)]
def LimAt (K : PySem.W.Frag) (H : Hp) (l : Addr) (k : LimK) (n : Int) : Prop := ∃ dx, H l = some (.ins (cLim K k) dx (limFs k n))
def SetAt (K : PySem.W.Frag) (H : Hp) (a : Addr) (S : Sg) : Prop := ∃ dx l, H a = some (.ins (cSet K S.hid) dx [("letters", .int S.q), ("own_limit", .ref l)]) ∧ LimAt K H l S.lk S.ln ∧ 2 ≤ S.q ∧ S.q ≤ 26
theorem LimAt.same {K : PySem.W.Frag} {H H' : Hp} {l : Addr} {k : LimK} {n : Int} (e : Same H H') (h : LimAt K H l k n) : LimAt K H' l k n := let ⟨dx, h⟩ := h; ⟨dx, e _ _ h⟩
theorem SetAt.same {K : PySem.W.Frag} {H H' : Hp} {a : Addr} {S : Sg} (e : Same H H') (h : SetAt K H a S) : SetAt K H' a S := let ⟨dx, l, h, h2, h3⟩ := h; ⟨dx, l, e _ _ h, h2.same e, h3⟩
def strW (w : Wd) : V := .str (SX.S w)
def kvsOf (L : List Wd) : List (Key × V) := L.zipIdx.map fun p => (Sum.inr (SX.S p.1), .int p.2)
def shelfFs (a d b : Addr) (S : Sg) (g : Int) : List (Str × V) := [("setting", .ref a), ("is_hidden", .bl S.hid), ("by_word", .ref d), ("by_number", .ref b), ("grown_now", .int g)]
/-- the shelf at s, made over what H0 held -/
def ShAt (K : PySem.W.Frag) (H0 H : Hp) (s a : Addr) (S : Sg) (st : Shf) : Prop := Same H0 H ∧ H0 s = none ∧ SetAt K H0 a S ∧ ∃ dx d b, H0 d = none ∧ H0 b = none ∧
  H s = some (.ins (cShelf K) dx (shelfFs a d b S st.g)) ∧ H d = some (.dK (kvsOf st.ws)) ∧ H b = some (.lst (st.ws.map strW))
theorem valV_zip {w : Wd} : ∀ (L : List Wd) (o : Nat), valV ((L.zipIdx o).map fun p => ((Sum.inr (SX.S p.1) : Key), V.int p.2)) (Sum.inr (SX.S w)) = if w ∈ L then some (.int ((o + L.idxOf w : Nat) : Int)) else none
  | [], o => rfl
  | x :: L, o => by
    rw [List.zipIdx_cons, List.map_cons]
    by_cases e : x = w
    · subst e
      rw [valV_pos rfl, if_pos List.mem_cons_self, List.idxOf_cons_self, Nat.add_zero]
    · have ne : ¬ ((Sum.inr (SX.S x) : Key) = Sum.inr (SX.S w)) := fun z => e (SX.S_inj (by injection z))
      rw [valV_neg ne, valV_zip L (o + 1)]
      by_cases h : w ∈ L
      · have e2 : (x :: L).idxOf w = L.idxOf w + 1 := by rw [List.idxOf_cons, beq_eq_false_iff_ne.mpr e]; rfl
        rw [if_pos h, if_pos (List.mem_cons_of_mem _ h), e2]
        congr 2
        omega
      · rw [if_neg h, if_neg fun z => (List.mem_cons.mp z).elim (fun z => e z.symm) h]
theorem valV_kvs (L : List Wd) (w : Wd) : valV (kvsOf L) (Sum.inr (SX.S w)) = if w ∈ L then some (.int (L.idxOf w : Nat)) else none := by
  have h := valV_zip (w := w) L 0
  rw [Nat.zero_add] at h
  exact h
theorem kvs_snoc (L : List Wd) (w : Wd) : kvsOf (L ++ [w]) = kvsOf L ++ [(Sum.inr (SX.S w), .int (L.length : Nat))] := by
  unfold kvsOf
  rw [List.zipIdx_append, List.map_append]
  simp
theorem kvs_put {L : List Wd} {w : Wd} (h : w ∉ L) : putK (kvsOf L) (Sum.inr (SX.S w)) (.int (L.length : Nat)) = kvsOf (L ++ [w]) := by
  rw [putK_new _ (by rw [valV_kvs, if_neg h]), kvs_snoc]
theorem kvs_len (L : List Wd) : (kvsOf L).length = L.length := by simp [kvsOf]
theorem idx_low {u : Option Int} {n : Nat} {i : Int} (h : (n : Int) ≤ i) : PySem.Builtin.Str.strSliceIndices (some i) u 1 n = PySem.Builtin.Str.strSliceIndices (some (n : Int)) u 1 n := by
  have h0 : ¬ i < 0 := by omega
  have h1 : ¬ ((n : Int) < 0) := by omega
  simp only [PySem.Builtin.Str.strSliceIndices, h0, h1, if_false, show (1 : Int) > 0 by decide, if_true, Int.min_eq_right h, Int.min_self]
theorem slice_at {l : List Nat} {a b : Int} (h0 : 0 ≤ a) (h1 : a ≤ b) (h2 : b ≤ l.length) : Txt.slice (SX.S l) (some a) (some b) = SX.S ((l.drop a.toNat).take (b - a).toNat) :=
  (beq_iff_eq.mp (PyProof.Rows.slice_closesL (x := SX.S l) h0 h1 (by rw [sx_len]; exact h2))).trans (TL.ext_tl rfl)
theorem cutS_mid {l : List Nat} {a b : Int} (h0 : 0 ≤ a) (h1 : a ≤ b) : cutS (SX.S l) (some a) (some b) = SX.S ((l.drop a.toNat).take (b - a).toNat) := by
  rw [C8.cutS_slice]
  by_cases hb : b ≤ l.length
  · exact slice_at h0 h1 hb
  · have e1 : Txt.slice (SX.S l) (some a) (some b) = Txt.slice (SX.S l) (some a) (some (l.length : Int)) := by
      unfold Txt.slice
      rw [sx_len, SX.idx_hi (by omega)]
    rw [e1]
    by_cases ha : a ≤ l.length
    · rw [slice_at h0 ha (Int.le_refl _), List.take_of_length_le (by rw [List.length_drop]; omega), List.take_of_length_le (by rw [List.length_drop]; omega)]
    · have e2 : Txt.slice (SX.S l) (some a) (some (l.length : Int)) = Txt.slice (SX.S l) (some (l.length : Int)) (some (l.length : Int)) := by
        unfold Txt.slice
        rw [sx_len, idx_low (by omega)]
      rw [e2, slice_at (by omega) (Int.le_refl _) (Int.le_refl _), List.drop_eq_nil_of_le (by omega), List.drop_eq_nil_of_le (by omega), List.take_nil, List.take_nil]

end Pt_cod
section Pt_pen
/-! ### the pen: what draws -/
/-- a pen at p, its cells at c: at most n draws begun -/
def PenB (H : Hp) (p c : Addr) (n : Int) : Prop := ∃ (cells : List Int) (b r : Int), H p = some (.lst [.ref c, .int b, .int r]) ∧ H c = some (.lst (cells.map V.int)) ∧ 0 ≤ b ∧ b ≤ n ∧ 0 ≤ r
/-- all but p is kept -/
def Keep (p : Addr) (H H' : Hp) : Prop := ∀ q o, q ≠ p → H q = some o → H' q = some o
section
variable {H H' H'' H1 H2 : Hp} {p c q : Addr} {n n' : Int} {o : HO}
theorem Keep.refl (p : Addr) (H : Hp) : Keep p H H := fun _ _ _ h => h
theorem Keep.trans (a : Keep p H H1) (b : Keep p H1 H2) : Keep p H H2 := fun q o n h => b q o n (a q o n h)
theorem Keep.upd (a : Keep p H H1) : Keep p H (L2.upd H1 p o) := fun q u n h => by
  rw [upd_ne n]
  exact a q u n h
theorem Keep.new (a : Keep p H H1) (hq : H q = none) : Keep p H (L2.upd H1 q o) := fun b u n h => by
  rw [upd_ne (ne_of_none h hq)]
  exact a b u n h
theorem PenB.of {cells : List Int} {b r : Int} (hp : H p = some (.lst [.ref c, .int b, .int r])) (hc : H c = some (.lst (cells.map V.int))) (h0 : 0 ≤ b) (h1 : b ≤ n) (h2 : 0 ≤ r) : PenB H p c n := ⟨cells, b, r, hp, hc, h0, h1, h2⟩
theorem pen_ne {cells : List Int} {b r : Int} (hp : H p = some (.lst [.ref c, .int b, .int r])) (hc : H c = some (.lst (cells.map V.int))) : c ≠ p := ne_of hc hp (by
  intro e
  injection e with e
  cases cells with
  | nil => cases e
  | cons a r => simp at e)
theorem PenB.ne (h : PenB H p c n) : c ≠ p := by
  obtain ⟨cells, b, r, h1, h2, _⟩ := h
  exact pen_ne h1 h2
theorem PenB.mono (h : PenB H p c n) (hn : n ≤ n') : PenB H p c n' := by
  obtain ⟨cells, b, r, h1, h2, h3, h4, h5⟩ := h
  exact ⟨cells, b, r, h1, h2, h3, by omega, h5⟩
theorem PenB.upd' (h : PenB H p c n) (np : q ≠ p) (nc : q ≠ c) : PenB (L2.upd H q o) p c n := by
  obtain ⟨cells, b, r, h1, h2, h3, h4, h5⟩ := h
  exact ⟨cells, b, r, by rw [upd_ne np.symm]; exact h1, by rw [upd_ne nc.symm]; exact h2, h3, h4, h5⟩
theorem PenB.free (h : PenB H p c n) (hq : H q = none) : q ≠ p := by
  obtain ⟨cells, b, r, h1, _⟩ := h
  exact (ne_of_none h1 hq).symm
theorem PenB.freeC (h : PenB H p c n) (hq : H q = none) : q ≠ c := by
  obtain ⟨cells, b, r, _, h1, _⟩ := h
  exact (ne_of_none h1 hq).symm
theorem PenB.new (h : PenB H p c n) (hq : H q = none) : PenB (L2.upd H q o) p c n := h.upd' (h.free hq) (h.freeC hq)
theorem PenB.same (h : PenB H p c n) (s : Same H H') : PenB H' p c n := by
  obtain ⟨cells, b, r, h1, h2, h3, h4, h5⟩ := h
  exact ⟨cells, b, r, s _ _ h1, s _ _ h2, h3, h4, h5⟩
theorem Keep.free (e : Keep p H H') (n : q ≠ p) (h : H' q = none) : H q = none := by
  cases h1 : H q with
  | none => rfl
  | some o => rw [e q o n h1] at h; cases h
/-- a new object behind draws -/
theorem Keep.alloc (e : Keep p H H') (hp : PenB H' p c n) (hq : H' q = none) : Keep p H (L2.upd H' q o) := e.new (e.free (hp.free hq) hq)
theorem Keep.same (e : Keep p H H') (s : Same H' H'') : Keep p H H'' := fun q o n h => s _ _ (e q o n h)
end
theorem draw_cond {y b k1 k2 k3 : Int} (hy0 : 0 ≤ y) (hy : y < 2147483648) (hb : 0 ≤ b) (hb1 : b ≤ 100000) (h1 : 0 ≤ k1 ∧ k1 ≤ 1000000) (h2 : 0 ≤ k2 ∧ k2 ≤ 1000000) (h3 : 0 ≤ k3 ∧ k3 ≤ 1000000) : CPow (y * (2 * b + k1) + k2 * b * b + k3) 3 := by
  have e1 : y * (2 * b + k1) ≤ 2147483648 * 1200000 := Int.mul_le_mul (by omega) (by omega) (by omega) (by omega)
  have e0 : 0 ≤ y * (2 * b + k1) := Int.mul_nonneg hy0 (by omega)
  have e2 : k2 * b ≤ 1000000 * 100000 := Int.mul_le_mul (by omega) hb1 hb (by omega)
  have e3 : 0 ≤ k2 * b := Int.mul_nonneg h2.1 hb
  have e4 : k2 * b * b ≤ (1000000 * 100000) * 100000 := Int.mul_le_mul e2 hb1 hb (by omega)
  have e5 : 0 ≤ k2 * b * b := Int.mul_nonneg e3 hb
  exact ⟨by decide, by decide, by omega⟩
def spDraw : Sp := fun vs H Q _ => ∃ (p c : Addr) (m n : Int), vs = [.ref p, .int m] ∧ 0 < m ∧ m.natAbs.log2 < 9000 ∧ PenB H p c n ∧ n ≤ 100000 ∧
  ∀ (d : Int) (H' : Hp), 0 ≤ d → d < m → Keep p H H' → PenB H' p c (n + 1) → Q (.int d) H'
section
variable {P : Program} {w : World} {K : PySem.W.Frag} {mg : Str → Option Value} {base : Heap}
theorem d_law_draw (T : Txt K mg) (F : FD K mg "_law_draw" s_law_draw) : Dn P w K mg base 1 "_law_draw" s_law_draw ["pen", "many"] (spDraw) := by
  refine dn_of F (fun _ _ _ _ _ _ us hl => match us, hl with | [_, _], _ => rfl) sc_law_draw (fun vs H Q E h => ?_) (fun fa cdv A outer s H vs Q E hr h => ?_)
  · obtain ⟨p, c, m, n, rfl, _⟩ := h
    rfl
  · obtain ⟨p, c, m, n, rfl, hm, hm2, ⟨cells, b, r, hp, hc, hb, hbn, hr0⟩, hn, k⟩ := h
    have ncp : c ≠ p := pen_ne hp hc
    refine ⟨_, PSs.nox (pss_cons (ps_if (pt_cmpR op_gt (pe_ix ix_list (pv 0) pe_int (fun _ _ => rfl)) pe_int (nomark _))
 (pss_cons (ps_set (i := 2) sc_law_draw.nd rfl (Or.inl rfl) (pe_op op_mod (pe_callTy cl_int1 (by rfl) T.n_int (by decide +kernel) (pa_cons (pe_ix ix_list (pv 0) pe_int (fun _ _ => rfl)) pa_nil)) (pv 1)))
 (pss_cons (ps_asg (pe_op op_fdivW (pe_callTy cl_int1 (by rfl) T.n_int (by decide +kernel) (pa_cons (pe_ix ix_list (pv 0) pe_int (fun _ _ => rfl)) pa_nil)) (pv 1)) (pg_sub (pv 0) pe_int set_list))
 (pss_one (ps_ret (pv 2)))))
 pss_nil)
 (pss_cons (ps_set (i := 3) sc_law_draw.nd rfl (Or.inl rfl) (pe_ix ix_list (pv 0) pe_int (fun _ _ => rfl)))
 (pss_cons (ps_asg (pe_op op_add (pv 3) pe_int) (pg_sub (pv 0) pe_int set_list))
 (pss_cons (ps_set (i := 4) sc_law_draw.nd rfl (Or.inl rfl) (pe_op op_add (pe_op op_mulA pe_int (pv 3)) pe_int))
 (pss_cons (ps_if (pt_cmpR (op_neD hr.units) (pe_ix ix_list (pv 0) pe_int (fun _ _ => rfl)) (pe_lst pa_nil) (nomark _))
 (pss_one (ps_set (i := 4) sc_law_draw.nd rfl (Or.inl rfl) (pe_ix ix_list (pe_ix ix_list (pv 0) pe_int (fun _ _ => rfl)) (pe_op op_mod (pe_callTy cl_int1 (by rfl) T.n_int (by decide +kernel) (pa_cons (pv 3) pa_nil)) (pe_callB cl_lenQ (by rfl) T.n_len (by decide +kernel) (pa_cons (pe_ix ix_list (pv 0) pe_int (fun _ _ => rfl)) pa_nil))) (fun _ _ => rfl))))
 pss_nil)
 (pss_cons (ps_if (PW.pt (pw_and (pt_cmpR op_lt (pv 3) (pe_callB cl_lenQ (by rfl) T.n_len (by decide +kernel) (pa_cons (pe_ix ix_list (pv 0) pe_int (fun _ _ => rfl)) pa_nil)) (nomark _)) (pw_and1 (pt_cmpR op_ge (pe_callB cl_abs (by rfl) T.n_abs (by decide +kernel) (pa_cons (pv 4) pa_nil)) (pe_op op_pow pe_int pe_int) (nomark _)))))
 (pss_cons (ps_set (i := 5) sc_law_draw.nd rfl (Or.inl rfl) (pe_op op_add (pe_op op_mulA pe_int (pe_op op_sub (pe_callB cl_abs (by rfl) T.n_abs (by decide +kernel) (pa_cons (pv 4) pa_nil)) (pe_op op_pow pe_int pe_int))) (pe_callTy cl_int1 (by rfl) T.n_int (by decide +kernel) (pa_cons (pe_cmpR op_lt (pv 4) pe_int (nomark _)) pa_nil))))
 (pss_cons (ps_asg (pe_op op_fdivW (pe_callTy cl_int1 (by rfl) T.n_int (by decide +kernel) (pa_cons (pv 5) pa_nil)) (pv 1)) (pg_sub (pv 0) pe_int set_list))
 (pss_one (ps_ret (pe_op op_mod (pe_callTy cl_int1 (by rfl) T.n_int (by decide +kernel) (pa_cons (pv 5) pa_nil)) (pv 1))))))
 pss_nil)
 (pss_cons (ps_set (i := 6) sc_law_draw.nd rfl (Or.inl rfl) (pe_op op_mod (pe_callTy cl_int1 (by rfl) T.n_int (by decide +kernel) (pa_cons (pe_op op_pow (pe_op op_add (pe_op op_add (pe_op op_mod (pe_callTy cl_int1 (by rfl) T.n_int (by decide +kernel) (pa_cons (pv 4) pa_nil)) pe_int) (pe_op op_mulA pe_int (pv 3))) pe_int) pe_int) pa_nil)) pe_int))
 (pss_cons (ps_set (i := 6) sc_law_draw.nd rfl (Or.inl rfl) (pe_op op_mod (pe_callTy cl_int1 (by rfl) T.n_int (by decide +kernel) (pa_cons (pe_op op_pow (pe_op op_add (pe_op op_add (pe_op op_mulA (pv 6) (pe_op op_add (pe_op op_mulA pe_int (pv 3)) pe_int)) (pe_op op_mulA (pe_op op_mulA pe_int (pv 3)) (pv 3))) pe_int) pe_int) pa_nil)) pe_int))
 (pss_one (ps_ret (pe_op op_mod (pe_callTy cl_int1 (by rfl) T.n_int (by decide +kernel) (pa_cons (pe_op op_fdivW (pv 6) pe_int) pa_nil)) (pv 1)))))))))))), ?_⟩
    refine w_start (σ := [some (.ref p), some (.int m), none, none, none, none, none]) rfl ?_
    with_reducible refine w_seq ?_
    repeat walk_at "st"
    refine w_ite (fun h0 => ?_) (fun h0 => ?_)
    · repeat walk_at "st"
      refine k _ _ (Int.emod_nonneg _ (by omega)) (Int.emod_lt_of_pos _ hm) (Keep.refl p H).upd ?_
      exact PenB.of upd_same (by walk_at "hp") hb (by omega) (Int.ediv_nonneg hr0 (by omega))
    repeat walk_at "st"
    with_reducible refine w_join (fun σ' H' => ∃ x : Int, σ' = [some (.ref p), some (.int m), none, some (.int b), some (.int x), none, none] ∧ H' p = some (.lst [.ref c, .int (b + 1), .int r]) ∧ H' c = some (.lst (cells.map V.int)) ∧ Keep p H H') (fun X hX => ?_) ?_
    · repeat walk_at "st"
      refine ⟨Nat.zero_le _, fun q hq => ?_⟩
      have nqp : p ≠ q := ne_of_none upd_same hq
      have nqc : c ≠ q := ne_of_none (show upd H p (.lst [V.ref c, V.int (b + 1), V.int r]) c = some (.lst (cells.map V.int)) by walk_at "hp") hq
      have hq0 : H q = none := by
        rw [upd_ne nqp.symm] at hq
        exact hq
      refine w_neNil (ns := cells) (by walk_at "hp") (by walk_at "hp") ?_
      repeat walk_at "st"
      refine w_itN (fun h1 => ?_) (fun h1 => ?_)
      · have hl : 0 < cells.length := List.length_pos_iff.mpr h1
        repeat walk_at "st"
        refine w_I (by rw [List.length_map]; omega) ?_
        refine w_ixL (xs := cells.map V.int) (by walk_at "hp") (atI_map (Int.emod_nonneg _ (by rw [List.length_map]; omega)) (by rw [List.length_map]; exact Int.emod_lt_of_pos _ (by omega))) ?_
        repeat walk_at "st"
        exact hX _ _ ⟨_, rfl, by walk_at "hp", by walk_at "hp", ((Keep.refl p H).upd).new hq0⟩
      · repeat walk_at "st"
        exact hX _ _ ⟨_, rfl, by walk_at "hp", by walk_at "hp", ((Keep.refl p H).upd).new hq0⟩
    · rintro σ' H' ⟨x, rfl, hp', hc', kp⟩
      with_reducible refine w_join (fun σ1 H1 => σ1 = [some (.ref p), some (.int m), none, some (.int b), some (.int x), none, none] ∧ H1 = H') (fun X hX => ?_) ?_
      · repeat walk_at "st"
        refine w_ite (fun h1 => ?_) (fun h1 => ?_)
        · repeat walk_at "st"
          refine w_ite (fun h2 => ?_) (fun h2 => ?_)
          · repeat walk_at "st"
            refine k _ _ (Int.emod_nonneg _ (by omega)) (Int.emod_lt_of_pos _ hm) kp.upd ?_
            refine PenB.of upd_same (by walk_at "hp") (by omega) (by omega) (Int.ediv_nonneg ?_ (by omega))
            have h3 : (10 : Int) ^ (18 : Int).toNat ≤ (if x < 0 then -x else x) := h2
            split <;> split <;> omega
          · repeat walk_at "st"
            exact hX _ _ ⟨rfl, rfl⟩
        · repeat walk_at "st"
          exact hX _ _ ⟨rfl, rfl⟩
      · rintro σ1 H1 ⟨rfl, rfl⟩
        repeat walk_at "st"
        refine w_I (draw_cond (Int.emod_nonneg _ (by decide)) (Int.lt_trans (Int.emod_lt_of_pos _ (by decide)) (by decide)) hb (by omega) (by decide) (by decide) (by decide)) ?_
        repeat walk_at "st"
        exact k _ _ (Int.emod_nonneg _ (by omega)) (Int.emod_lt_of_pos _ hm) kp (PenB.of hp' hc' (by omega) (by omega) (by omega))
def spPick (K : PySem.W.Frag) : Sp := fun vs H Q _ => ∃ (p c : Addr) (x : V) (xs : List V) (n : Int), vs = [.ref p, x] ∧ Row K H x xs ∧ x ≠ .ref p ∧ 0 < xs.length ∧ xs.length ≤ 1000000 ∧ PenB H p c n ∧ n ≤ 100000 ∧
  ∀ (v : V) (H' : Hp), v ∈ xs → Keep p H H' → PenB H' p c (n + 1) → Q v H'
theorem Row.keep {H H' : Hp} {p : Addr} {x : V} {xs : List V} (e : Keep p H H') (h : Row K H x xs) (n : x ≠ .ref p) : Row K H' x xs := by
  cases h with
  | lst h =>
    rename_i a
    have na : a ≠ p := fun z => n (by rw [z])
    refine .lst ?_
    rcases h with (h | ⟨o, h⟩) | h
    · exact .inl (.inl (e _ _ na h))
    · exact .inl (.inr ⟨o, e _ _ na h⟩)
    · exact .inr h
  | tup h =>
    rename_i a
    have na : a ≠ p := fun z => n (by rw [z])
    refine .tup ?_
    rcases h with (h | ⟨o, h⟩) | h
    · exact .inl (.inl (e _ _ na h))
    · exact .inl (.inr ⟨o, e _ _ na h⟩)
    · exact .inr h
  | str h => exact .str h
theorem log2_small {n : Nat} (h : n ≤ 1000000) : ((n : Nat) : Int).natAbs.log2 < 9000 := by
  rw [Int.natAbs_natCast]
  exact PySem.Flt.log2_lt_of (by decide) (Nat.lt_of_le_of_lt h (by decide +kernel))
theorem d_law_pick (T : Txt K mg) (F : FD K mg "_law_pick" s_law_pick) (c_law_draw : Dn P w K mg base 1 "_law_draw" s_law_draw ["pen", "many"] (spDraw)) : Dn P w K mg base 2 "_law_pick" s_law_pick ["pen", "some"] (spPick K) := by
  refine dn_of F (fun _ _ _ _ _ _ us hl => match us, hl with | [_, _], _ => rfl) sc_law_pick (fun vs H Q E h => ?_) (fun fa cdv A outer s H vs Q E hr h => ?_)
  · obtain ⟨p, c, x, xs, n, rfl, _⟩ := h
    rfl
  · obtain ⟨p, c, x, xs, n, rfl, rw_, nx, l0, l1, hp, hn, k⟩ := h
    refine ⟨_, PSs.nox (pss_one (ps_ret (pe_ix ix_seq (pv 1) (pe_d c_law_draw hr (by decide) rfl (pa_cons (pv 0) (pa_cons (pe_callB cl_lenA (by rfl) T.n_len (by decide +kernel) (pa_cons (pv 1) pa_nil)) pa_nil))) (fun _ _ => rfl)))), ?_⟩
    refine w_start (σ := [some (.ref p), some x]) rfl ?_
    repeat walk_at "st"
    refine w_lenA rw_ ?_
    repeat walk_at "st"
    refine ⟨p, c, (xs.length : Int), n, rfl, by omega, log2_small l1, hp, hn, fun d H' d0 d1 e hp' => ?_⟩
    exact w_ixA (Row.keep e rw_ nx) d0 d1 fun v hv _ => k v H' hv e hp'
/-- .. of a list that was just made -/
theorem pick_new {K : PySem.W.Frag} {H : Hp} {p c q : Addr} {n : Int} {xs : List V} {Q : VK} (hq : H q = none) (hp : PenB H p c n) (hn : n ≤ 100000) (l0 : 0 < xs.length) (l1 : xs.length ≤ 1000000)
    (cn : ∀ (v : V) (H' : Hp), v ∈ xs → Keep p H H' → PenB H' p c (n + 1) → Q v H') : spPick K ([.ref p, .ref q] ++ []) (L2.upd H q (.lst xs)) Q E0 :=
  ⟨p, c, .ref q, xs, n, rfl, .lst (SqL.of upd_same), fun e => hp.free hq (by injection e), l0, l1, hp.new hq, hn, fun v H' hv e h => cn v H' hv (((Keep.refl p H).alloc hp hq).trans e) h⟩
def spPen (K : PySem.W.Frag) : Sp := fun vs H Q _ => ∃ (a : Addr) (ns : List Int), vs = [.ref a] ∧ SqL K H a (ns.map V.int) ∧
  ∀ (p c : Addr) (H' : Hp), H p = none → Same H H' → PenB H' p c 0 → Q (.ref p) H'
theorem cutV_ints (ns : List Int) (lo hi : Option Int) : ∃ ms : List Int, cutV (ns.map V.int) lo hi = ms.map V.int := by
  unfold cutV
  rw [← List.map_drop, ← List.map_take]
  exact ⟨_, rfl⟩
theorem d_law_pen (T : Txt K mg) (F : FD K mg "_law_pen" s_law_pen) : Dn P w K mg base 1 "_law_pen" s_law_pen ["script"] (spPen K) := by
  refine dn_of F (fun _ _ _ _ _ _ us hl => match us, hl with | [_], _ => rfl) sc_law_pen (fun vs H Q E h => ?_) (fun fa cdv A outer s H vs Q E hr h => ?_)
  · obtain ⟨a, ns, rfl, _⟩ := h
    rfl
  · obtain ⟨a, ns, rfl, hS, k⟩ := h
    refine ⟨_, PSs.nox (pss_one (ps_ret (pe_lst (pa_cons (pe_callTy cl_listOf (by rfl) T.n_list (by decide +kernel) (pa_cons (pe_slice sl_list (pv 0) po_none (po_some pe_int)) pa_nil)) (pa_cons pe_int (pa_cons pe_int pa_nil)))))), ?_⟩
    refine w_start (σ := [some (.ref a)]) rfl ?_
    repeat walk_at "st"
    refine w_slL hS fun q hq => ?_
    obtain ⟨ms, e⟩ := cutV_ints ns none (some 63)
    rw [e]
    repeat walk_at "st"
    refine w_listOfK (SqL.of upd_same) fun r hr' => ?_
    repeat walk_at "st"
    refine ⟨by walk_at "len", fun p hp => ?_⟩
    have nrp : r ≠ p := ne_of_none upd_same hp
    have nqr : q ≠ r := ne_of_none upd_same hr'
    have r0 : H r = none := by
      rw [upd_ne nqr.symm] at hr'
      exact hr'
    have nqp : q ≠ p := ne_of_none (show upd (upd H q (.lst (ms.map V.int))) r (.lst (ms.map V.int)) q = some (.lst (ms.map V.int)) by walk_at "hp") hp
    have p0 : H p = none := by
      rw [upd_ne nrp.symm, upd_ne nqp.symm] at hp
      exact hp
    refine k p r _ p0 (fun b o hb => ?_) (PenB.of upd_same (by walk_at "hp") (by decide) (by decide) (by decide))
    rw [upd_ne (ne_of_none hb p0), upd_ne (ne_of_none hb r0), upd_ne (ne_of_none hb hq)]
    exact hb
end

end Pt_pen
section Pt_lim
/-! ### limits.py: what a limit lets -/
def spTrue3 : Sp := fun vs H Q _ => ∃ x y z, vs = [x, y, z] ∧ Q (.bl true) H
def spFalse2 : Sp := fun vs H Q _ => ∃ x y, vs = [x, y] ∧ Q (.bl false) H
def spLets (K : PySem.W.Frag) (k : LimK) : Sp := fun vs H Q _ => ∃ l n g z, vs = [.ref l, .int g, .int z] ∧ LimAt K H l k n ∧ Q (.bl (letsK k n g z)) H
def spEnds (K : PySem.W.Frag) (k : LimK) : Sp := fun vs H Q _ => ∃ l n g, vs = [.ref l, .int g] ∧ LimAt K H l k n ∧ Q (.bl (endsK k n g)) H
def limOk : LimK → Int → Prop
  | .free, n => n = 0
  | .short, n => 1 ≤ n ∧ n ≤ 64
  | .cleared, n => 1 ≤ n ∧ n ≤ 4096
  | .standing, n => 0 ≤ n ∧ n ≤ 4096
def limArgs : LimK → Int → List V
  | .free, _ => []
  | _, n => [.int n]
def spLimInit (K : PySem.W.Frag) (k : LimK) : Sp := fun vs H Q _ => ∃ x dx n, vs = .ref x :: limArgs k n ∧ limOk k n ∧ H x = some (.ins (cLim K k) dx []) ∧ Q .non (upd H x (.ins (cLim K k) dx (limFs k n)))
section
variable {P : Program} {w : World} {K : PySem.W.Frag} {mg : Str → Option Value} {base : Heap}
theorem d_Limit_lets (T : Txt K mg) {f : Addr} (F : FA K "lets" "Limit.lets" s_Limit_lets [] f) : Fr P w K mg base 1 (f) ["self", "grown", "size"] [] (spTrue3) := by
  refine fr_of0 F (fun _ _ _ _ _ _ us hl => match us, hl with | [_, _, _], _ => rfl) sc_Limit_lets (fun vs H Q E h => ?_) (fun fa cdv A outer s H vs Q E hr h => ?_)
  · obtain ⟨x, y, z, rfl, _⟩ := h
    rfl
  · obtain ⟨x, y, z, rfl, k⟩ := h
    refine ⟨_, PSs.nox (pss_one (ps_ret pe_bl)), ?_⟩
    refine w_start (σ := [some x, some y, some z]) rfl ?_
    repeat walk_at "st"
    exact k
theorem d_Short_lets (T : Txt K mg) {f : Addr} (F : FA K "lets" "Short.lets" s_Short_lets [] f) : Fr P w K mg base 1 (f) ["self", "grown", "size"] [] (spLets K .short) := by
  refine fr_of0 F (fun _ _ _ _ _ _ us hl => match us, hl with | [_, _, _], _ => rfl) sc_Short_lets (fun vs H Q E h => ?_) (fun fa cdv A outer s H vs Q E hr h => ?_)
  · obtain ⟨l, n, g, z, rfl, _⟩ := h
    rfl
  · obtain ⟨l, n, g, z, rfl, ⟨dx, hl⟩, k⟩ := h
    refine ⟨_, PSs.nox (pss_one (ps_ret (pe_cmpR op_le (pv 2) (pe_fld (pv 0) rfl) (nomark _)))), ?_⟩
    refine w_start (σ := [some (.ref l), some (.int g), some (.int z)]) rfl ?_
    repeat walk_at "st"
    exact k
theorem d_Standing_lets (T : Txt K mg) {f : Addr} (F : FA K "lets" "Standing.lets" s_Standing_lets [] f) : Fr P w K mg base 1 (f) ["self", "grown", "size"] [] (spLets K .standing) := by
  refine fr_of0 F (fun _ _ _ _ _ _ us hl => match us, hl with | [_, _, _], _ => rfl) sc_Standing_lets (fun vs H Q E h => ?_) (fun fa cdv A outer s H vs Q E hr h => ?_)
  · obtain ⟨l, n, g, z, rfl, _⟩ := h
    rfl
  · obtain ⟨l, n, g, z, rfl, ⟨dx, hl⟩, k⟩ := h
    refine ⟨_, PSs.nox (pss_one (ps_ret (pe_cmpR op_lt (pv 1) (pe_fld (pv 0) rfl) (nomark _)))), ?_⟩
    refine w_start (σ := [some (.ref l), some (.int g), some (.int z)]) rfl ?_
    repeat walk_at "st"
    exact k
theorem d_Limit_ends_at (T : Txt K mg) {f : Addr} (F : FA K "ends_at" "Limit.ends_at" s_Limit_ends_at [] f) : Fr P w K mg base 1 (f) ["self", "grown"] [] (spFalse2) := by
  refine fr_of0 F (fun _ _ _ _ _ _ us hl => match us, hl with | [_, _], _ => rfl) sc_Limit_ends_at (fun vs H Q E h => ?_) (fun fa cdv A outer s H vs Q E hr h => ?_)
  · obtain ⟨x, y, rfl, _⟩ := h
    rfl
  · obtain ⟨x, y, rfl, k⟩ := h
    refine ⟨_, PSs.nox (pss_one (ps_ret pe_bl)), ?_⟩
    refine w_start (σ := [some x, some y]) rfl ?_
    repeat walk_at "st"
    exact k
theorem d_Cleared_ends_at (T : Txt K mg) {f : Addr} (F : FA K "ends_at" "Cleared.ends_at" s_Cleared_ends_at [] f) : Fr P w K mg base 1 (f) ["self", "grown"] [] (spEnds K .cleared) := by
  refine fr_of0 F (fun _ _ _ _ _ _ us hl => match us, hl with | [_, _], _ => rfl) sc_Cleared_ends_at (fun vs H Q E h => ?_) (fun fa cdv A outer s H vs Q E hr h => ?_)
  · obtain ⟨l, n, g, rfl, _⟩ := h
    rfl
  · obtain ⟨l, n, g, rfl, ⟨dx, hl⟩, k⟩ := h
    refine ⟨_, PSs.nox (pss_one (ps_ret (pe_cmpR op_ge (pv 1) (pe_fld (pv 0) rfl) (nomark _)))), ?_⟩
    refine w_start (σ := [some (.ref l), some (.int g)]) rfl ?_
    repeat walk_at "st"
    exact k
theorem d_Free___init__ (T : Txt K mg) {f : Addr} (F : FA K "__init__" "Free.__init__" s_Free___init__ [] f) : Fr P w K mg base 1 (f) ["self"] [] (spLimInit K .free) := by
  refine fr_of0 F (fun _ _ _ _ _ _ us hl => match us, hl with | [_], _ => rfl) sc_Free___init__ (fun vs H Q E h => ?_) (fun fa cdv A outer s H vs Q E hr h => ?_)
  · obtain ⟨x, dx, n, rfl, _⟩ := h
    rfl
  · obtain ⟨x, dx, n, rfl, _, hx, k⟩ := h
    refine ⟨_, PSs.nox (pss_one (ps_fld (pv 0) pe_non rfl)), ?_⟩
    refine w_start (σ := [some (.ref x)]) rfl ?_
    repeat walk_at "st"
    exact k
theorem bet_of {lo hi n : Int} (h1 : lo ≤ n) (h2 : n ≤ hi) : betV lo hi (.int n) = true := by
  show (decide (lo ≤ n) && decide (n ≤ hi)) = true
  rw [decide_eq_true h1, decide_eq_true h2]
  rfl
theorem w_cval {K : PySem.W.Frag} {σ : L2.St} {H : Hp} {Q : VK} {ta : TE} {C : Addr} {f : Str} {v : V} (c : ClsCon K C f v) (h : ta σ H fun x H1 => x = .ref C ∧ Q v H1) (m : ∀ {R R' : VK}, (∀ x H1, R x H1 → R' x H1) → ta σ H R → ta σ H R') : ClX.tCVal K ta f σ H Q := by
  obtain ⟨mc, u, c1, c2⟩ := c
  exact m (fun x H1 ⟨e, q⟩ => ⟨C, mc, v, u, e, c1, c2, q⟩) h
theorem d_Short___init__ (T : Txt K mg) {f : Addr} (F : FA K "__init__" "Short.__init__" s_Short___init__ [] f) (c_is_between : Dn P w K mg base 2 "is_between" s_is_between ["value", "least", "most"] (spBetween)) : Fr P w K mg base 3 (f) ["self", "longest"] [] (spLimInit K .short) := by
  refine fr_of0 F (fun _ _ _ _ _ _ us hl => match us, hl with | [_, _], _ => rfl) sc_Short___init__ (fun vs H Q E h => ?_) (fun fa cdv A outer s H vs Q E hr h => ?_)
  · obtain ⟨x, dx, n, rfl, _⟩ := h
    rfl
  · obtain ⟨x, dx, n, rfl, hn, hx, k⟩ := h
    refine ⟨_, PSs.nox (pss_cons (ps_if (pt_not (pt_val (pe_d c_is_between hr (by decide) rfl (pa_cons (pv 1) (pa_cons pe_int (pa_cons (ClX.pe_cval (pe_gc (x := "Short") rfl (T.gc_lim .short))) pa_nil)))) (by intro _; rfl)))
 (pss_one ps_never)
 pss_nil)
 (pss_cons (ps_fld (pv 0) (pv 1) rfl)
 (pss_one (ps_fld (pv 0) (pv 1) rfl)))), ?_⟩
    refine w_start (σ := [some (.ref x), some (.int n)]) rfl ?_
    with_reducible refine w_seq ?_
    repeat walk_at "st"
    refine w_cval T.most_s ⟨rfl, ?_⟩ fun h => h _ _
    repeat walk_at "st"
    refine ⟨.int n, "int", 1, 64, rfl, .int n, ?_⟩
    rw [bet_of hn.1 hn.2]
    repeat walk_at "st"
    rw [upd_upd]
    exact k
theorem d_Cleared___init__ (T : Txt K mg) {f : Addr} (F : FA K "__init__" "Cleared.__init__" s_Cleared___init__ [] f) (c_is_between : Dn P w K mg base 2 "is_between" s_is_between ["value", "least", "most"] (spBetween)) : Fr P w K mg base 3 (f) ["self", "many"] [] (spLimInit K .cleared) := by
  refine fr_of0 F (fun _ _ _ _ _ _ us hl => match us, hl with | [_, _], _ => rfl) sc_Cleared___init__ (fun vs H Q E h => ?_) (fun fa cdv A outer s H vs Q E hr h => ?_)
  · obtain ⟨x, dx, n, rfl, _⟩ := h
    rfl
  · obtain ⟨x, dx, n, rfl, hn, hx, k⟩ := h
    refine ⟨_, PSs.nox (pss_cons (ps_if (pt_not (pt_val (pe_d c_is_between hr (by decide) rfl (pa_cons (pv 1) (pa_cons pe_int (pa_cons (ClX.pe_cval (pe_gc (x := "Counted") rfl (T.gc_Counted))) pa_nil)))) (by intro _; rfl)))
 (pss_one ps_never)
 pss_nil)
 (pss_cons (ps_fld (pv 0) (pv 1) rfl)
 (pss_one (ps_fld (pv 0) (pv 1) rfl)))), ?_⟩
    refine w_start (σ := [some (.ref x), some (.int n)]) rfl ?_
    with_reducible refine w_seq ?_
    repeat walk_at "st"
    refine w_cval T.most_c ⟨rfl, ?_⟩ fun h => h _ _
    repeat walk_at "st"
    refine ⟨.int n, "int", 1, 4096, rfl, .int n, ?_⟩
    rw [bet_of hn.1 hn.2]
    repeat walk_at "st"
    rw [upd_upd]
    exact k
theorem d_Standing___init__ (T : Txt K mg) {f : Addr} (F : FA K "__init__" "Standing.__init__" s_Standing___init__ [] f) (c_is_between : Dn P w K mg base 2 "is_between" s_is_between ["value", "least", "most"] (spBetween)) : Fr P w K mg base 3 (f) ["self", "many"] [] (spLimInit K .standing) := by
  refine fr_of0 F (fun _ _ _ _ _ _ us hl => match us, hl with | [_, _], _ => rfl) sc_Standing___init__ (fun vs H Q E h => ?_) (fun fa cdv A outer s H vs Q E hr h => ?_)
  · obtain ⟨x, dx, n, rfl, _⟩ := h
    rfl
  · obtain ⟨x, dx, n, rfl, hn, hx, k⟩ := h
    refine ⟨_, PSs.nox (pss_cons (ps_if (pt_not (pt_val (pe_d c_is_between hr (by decide) rfl (pa_cons (pv 1) (pa_cons pe_int (pa_cons (ClX.pe_cval (pe_gc (x := "Counted") rfl (T.gc_Counted))) pa_nil)))) (by intro _; rfl)))
 (pss_one ps_never)
 pss_nil)
 (pss_cons (ps_fld (pv 0) (pv 1) rfl)
 (pss_one (ps_fld (pv 0) (pv 1) rfl)))), ?_⟩
    refine w_start (σ := [some (.ref x), some (.int n)]) rfl ?_
    with_reducible refine w_seq ?_
    repeat walk_at "st"
    refine w_cval T.most_c ⟨rfl, ?_⟩ fun h => h _ _
    repeat walk_at "st"
    refine ⟨.int n, "int", 0, 4096, rfl, .int n, ?_⟩
    rw [bet_of hn.1 hn.2]
    repeat walk_at "st"
    rw [upd_upd]
    exact k
theorem lets_free : ∀ vs H Q E, spLets K .free vs H Q E → spTrue3 vs H Q E := fun _ _ _ _ ⟨_, _, _, _, e, _, q⟩ => ⟨_, _, _, e, q⟩
theorem lets_cleared : ∀ vs H Q E, spLets K .cleared vs H Q E → spTrue3 vs H Q E := fun _ _ _ _ ⟨_, _, _, _, e, _, q⟩ => ⟨_, _, _, e, q⟩
theorem ends_free : ∀ vs H Q E, spEnds K .free vs H Q E → spFalse2 vs H Q E := fun _ _ _ _ ⟨_, _, _, e, _, q⟩ => ⟨_, _, e, q⟩
theorem ends_short : ∀ vs H Q E, spEnds K .short vs H Q E → spFalse2 vs H Q E := fun _ _ _ _ ⟨_, _, _, e, _, q⟩ => ⟨_, _, e, q⟩
theorem ends_standing : ∀ vs H Q E, spEnds K .standing vs H Q E → spFalse2 vs H Q E := fun _ _ _ _ ⟨_, _, _, e, _, q⟩ => ⟨_, _, e, q⟩
end

end Pt_lim
section Pt_sett
/-! ### need_text, settings.py -/
def spNeedT : Sp := fun vs H Q _ => ∃ (l : List Nat) (q : Int), vs = [.str (SX.S l), .int q] ∧ 0 ≤ q ∧ (∀ c ∈ l, c ∈ abcL.take q.toNat) ∧ l.length ≤ 5000 ∧ ∀ H', Same H H' → Q .non H'
def spSetLimit (K : PySem.W.Frag) (h : Bool) : Sp := fun vs H Q _ => ∃ a dx l n, vs = [.ref a] ∧ H a = some (.ins (cSet K h) dx [("letters", .int n), ("own_limit", .ref l)]) ∧ Q (.ref l) H
/-- all but x is kept -/
def spSetInit (K : PySem.W.Frag) (h : Bool) : Sp := fun vs H Q _ => ∃ x dx q lim k n, vs = [.ref x, .int q, lim] ∧ 2 ≤ q ∧ q ≤ 26 ∧ H x = some (.ins (cSet K h) dx []) ∧ ((lim = .non ∧ k = .free ∧ n = 0) ∨ ∃ l, lim = .ref l ∧ LimAt K H l k n) ∧
  ∀ H' l, Keep x H H' → H' x = some (.ins (cSet K h) dx [("letters", .int q), ("own_limit", .ref l)]) → LimAt K H' l k n → Q .non H'
theorem w_enumS {σ : L2.St} {H : Hp} {ta : TA} {R : It → Hp → Prop} (q : ta σ H fun vs H1 => ∃ z, vs = [.str z] ∧ R (Itw (fun _ => True) (signsV z)) H1) : iEnumS ta σ H R := q
theorem w_str1 {a : Str} {P : Str → Prop} (q : P a) : ∃ z, [V.str a] = [.str z] ∧ P z := ⟨a, rfl, q⟩
theorem signs_at {l : List Nat} {i : Nat} {x : V} (h : (signsV (SX.S l))[i]? = some x) : ∃ c, l[i]? = some c ∧ x = .str ⟨#[c]⟩ := by
  unfold signsV at h
  rw [List.getElem?_map] at h
  have e : (SX.S l).cps.toList = l := by simp [SX.S]
  rw [e] at h
  cases hc : l[i]? with
  | none => rw [hc] at h; cases h
  | some c =>
    rw [hc] at h
    exact ⟨c, rfl, (Option.some.inj h).symm⟩
theorem same_free {H H' : Hp} {q : Addr} (e : Same H H') (h : H' q = none) : H q = none := by
  cases h1 : H q with
  | none => rfl
  | some o => rw [e q o h1] at h; cases h
theorem keep_two {H : Hp} {x y dx : Addr} {o u : HO} (h1 : H y = none) (h2 : H dx = none) : Keep x H (upd (upd H dx o) y u) := fun b w _ hb => same_two h1 h2 b w hb
section
variable {P : Program} {w : World} {K : PySem.W.Frag} {mg : Str → Option Value} {base : Heap}
theorem d_need_text (T : Txt K mg) (F : FD K mg "need_text" s_need_text) : Dn P w K mg base 1 "need_text" s_need_text ["value", "letters"] (spNeedT) := by
  refine dn_of F (fun _ _ _ _ _ _ us hl => match us, hl with | [_, _], _ => rfl) sc_need_text (fun vs H Q E h => ?_) (fun fa cdv A outer s H vs Q E hr h => ?_)
  · obtain ⟨l, q, rfl, _⟩ := h
    rfl
  · obtain ⟨l, q, rfl, hq, hl, hn, k⟩ := h
    refine ⟨_, PSs.nox (pss_cons (ps_if (pt_not (pt_val (pe_callB call_isi (by rfl) T.n_isinstance (by decide +kernel) (pa_cons (pv 0) (pa_cons (pe_bltn (v := .ty "str") (by rfl) T.n_str (by decide +kernel) rfl) pa_nil))) (by intro _; rfl)))
 (pss_one ps_never)
 pss_nil)
 (pss_cons (ps_for PassesOwn.never rfl (pi_enumS (by rfl) T.n_enumerate (pa_cons (pv 0) pa_nil)) (pg_tup rfl (pgs_cons (pg_name (i := 2) sc_need_text.nd rfl (Or.inl rfl)) (pgs_cons (pg_name (i := 3) sc_need_text.nd rfl (Or.inl rfl)) pgs_nil)))
 (pss_one (ps_if (pt_cmpR op_notIn1 (pv 3) (pe_slice sl_str (pe_gv rfl T.g_SIGNS) po_none (po_some (pv 1))) (by rfl))
 (pss_one ps_never)
 pss_nil)))
 (pss_one (ps_if (pt_cmpR op_gt (pe_callB cl_lenS (by rfl) T.n_len (by decide +kernel) (pa_cons (pv 0) pa_nil)) (pe_gv rfl T.g_MOST_TEXT) (nomark _))
 (pss_one ps_never)
 pss_nil)))), ?_⟩
    refine w_start (σ := [some (.str (SX.S l)), some (.int q), none, none]) rfl ?_
    with_reducible refine w_seq ?_
    repeat walk_at "st"
    refine w_isiStr (.str _) ?_
    repeat walk_at "st"
    with_reducible refine w_seq ?_
    repeat walk_at "st"
    refine w_enumS ?_
    repeat walk_at "st"
    refine w_str1 ?_
    refine for_itw (fun _ σ' H' => ∃ o1 o2, σ' = [some (.str (SX.S l)), some (.int q), o1, o2] ∧ Same H H') ⟨none, none, rfl, Same.refl H⟩ (fun _ _ _ _ => trivial) ?_ ?_
    · rintro i x t σ' H' hx ⟨o1, o2, rfl, e⟩ ht
      obtain ⟨c, hc, rfl⟩ := signs_at hx
      repeat walk_at "st"
      rw [abc_S, cutS_to hq]
      repeat walk_at "st"
      have hm : c ∈ abcL.take q.toNat := hl c (List.mem_of_getElem? hc)
      refine w_iteF (b := !decide (c ∈ (SX.S (abcL.take q.toNat)).cps.toList)) ?_ ?_
      · have e2 : (SX.S (abcL.take q.toNat)).cps.toList = abcL.take q.toNat := by simp [SX.S]
        rw [e2, decide_eq_true hm]
        rfl
      · repeat walk_at "st"
        exact ⟨_, _, rfl, same_new (same_free e ht) e⟩
    · rintro σ' H' ⟨o1, o2, rfl, e⟩
      repeat walk_at "st"
      refine w_lenS (by rw [sx_len]; have := sizeLine_eq; omega) ?_
      repeat walk_at "st"
      refine w_ite (fun h1 => ?_) (fun _ => ?_)
      · rw [sx_len] at h1
        omega
      · repeat walk_at "st"
        exact k _ e
theorem d_Setting_limit (T : Txt K mg) (h0 : Bool) {f : Addr} (F : FA K "limit" "Setting.limit" s_Setting_limit [] f) : Fr P w K mg base 1 f ["self"] [] (spSetLimit K h0) := by
  refine fr_of0 F (fun _ _ _ _ _ _ us hl => match us, hl with | [_], _ => rfl) sc_Setting_limit (fun vs H Q E h => ?_) (fun fa cdv A outer s H vs Q E hr h => ?_)
  · obtain ⟨a, dx, l, n, rfl, _⟩ := h
    rfl
  · obtain ⟨a, dx, l, n, rfl, ha, k⟩ := h
    refine ⟨_, PSs.nox (pss_one (ps_ret (pe_fld (pv 0) rfl))), ?_⟩
    refine w_start (σ := [some (.ref a)]) rfl ?_
    repeat walk_at "st"
    exact k
theorem len_Setting_init {h0 : Bool} : ∀ vs H Q E, spSetInit K h0 vs H Q E → vs.length = 3 := by
  rintro vs H Q E ⟨x, dx, q, lim, k, n, rfl, _⟩
  rfl
theorem b_Setting_init (T : Txt K mg) (h0 : Bool) (c_need_letters : Dn P w K mg base 3 "need_letters" s_need_letters ["value"] (spNeedL)) (c_Free___init__ : Fr P w K mg base 1 (He.ma K (cLim K .free) "__init__") ["self"] [] (spLimInit K .free)) : BodyOk P w K mg base 4 "Setting.__init__" s_Setting___init__ ["self", "letters", "limit"] (spSetInit K h0) := by
  refine fun fa cdv A outer s H vs Q E hr h => ?_
  obtain ⟨x, dx, q, lim, lk, n, rfl, q1, q2, hx, hlim, k⟩ := h
  refine ⟨_, PSs.nox (pss_cons (ps_expr (pe_d c_need_letters hr (by decide) rfl (pa_cons (pv 1) pa_nil)))
 (pss_cons (ps_if (PW.pt (pw_and (pt_cmpR op_notN' (pv 2) pe_non (nomark _)) (pw_and1 (pt_not (pt_val (pe_callB call_isi (by rfl) T.n_isinstance (by decide +kernel) (pa_cons (pv 2) (pa_cons (pe_gc (x := "Limit") rfl (T.gc_Limit)) pa_nil))) (by intro _; rfl))))))
 (pss_one ps_never)
 pss_nil)
 (pss_cons (ps_fld (pv 0) (pv 1) rfl)
 (pss_one (ps_fld (pv 0) (pe_ifExp (pt_cmpR op_isN' (pv 2) pe_non (nomark _)) (pe_mk0 c_Free___init__ (T.mk_lim .free) (T.gc_lim .free) hr (by decide) rfl) (pv 2)) rfl))))), ?_⟩
  refine w_start (σ := [some (.ref x), some (.int q), some lim]) rfl ?_
  repeat walk_at "st"
  refine ⟨q, rfl, q1, q2, ?_⟩
  repeat walk_at "st"
  rcases hlim with ⟨rfl, rfl, rfl⟩ | ⟨l, rfl, dl, hl⟩
  · with_reducible refine w_seq ?_
    repeat walk_at "st"
    refine fun l dl hl hdl ne => ⟨l, dl, 0, rfl, rfl, by walk_at "hp", rfl, ?_⟩
    have nx : x ≠ l := ne_of_none (show upd H x _ x = some _ from upd_same) hl
    have nd : x ≠ dl := ne_of_none (show upd H x _ x = some _ from upd_same) hdl
    have hl0 : H l = none := by rw [upd_ne nx.symm] at hl; exact hl
    have hd0 : H dl = none := by rw [upd_ne nd.symm] at hdl; exact hdl
    repeat walk_at "st"
    exact k _ l ((((((Keep.refl x H).upd).new hd0).new hl0).new hl0).upd) (by rw [upd_same]; rfl) ⟨dl, by walk_at "hp"⟩
  · with_reducible refine w_seq ?_
    repeat walk_at "st"
    refine w_isaT hl (T.cl_lim lk) (T.isa_lim lk) ?_
    repeat walk_at "st"
    have nl : l ≠ x := fun e => by
      rw [e, hx] at hl
      injection hl with hl
      injection hl with _ _ hl
      cases lk <;> cases hl
    exact k _ l ((Keep.refl x H).upd.upd) (by rw [upd_same]; rfl) ⟨dl, by walk_at "hp"⟩
theorem init1 (T : Txt K mg) (h0 : Bool) {f : Addr} (F : FA K "__init__" "Setting.__init__" s_Setting___init__ [.non] f) (c_need_letters : Dn P w K mg base 3 "need_letters" s_need_letters ["value"] (spNeedL)) (c_Free___init__ : Fr P w K mg base 1 (He.ma K (cLim K .free) "__init__") ["self"] [] (spLimInit K .free)) : Fr P w K mg base (4 + 1) f ["self", "letters", "limit"] [.non] (spSetInit K h0) :=
  fr_ofD 2 0 F (by simp) rfl (fun _ _ _ _ _ _ _ us its h1 h2 => match us, its, h1, h2 with | [_, _], [_], _, _ => ⟨_, rfl, rfl⟩) sc_Setting___init__ len_Setting_init (b_Setting_init T h0 c_need_letters c_Free___init__)
theorem init2 (T : Txt K mg) (h0 : Bool) {f : Addr} (F : FA K "__init__" "Setting.__init__" s_Setting___init__ [.non] f) (c_need_letters : Dn P w K mg base 3 "need_letters" s_need_letters ["value"] (spNeedL)) (c_Free___init__ : Fr P w K mg base 1 (He.ma K (cLim K .free) "__init__") ["self"] [] (spLimInit K .free)) : Fr P w K mg base (4 + 1) f ["self", "letters", "limit"] [] (spSetInit K h0) :=
  fr_ofD 3 1 F (by simp) rfl (fun _ _ _ _ _ _ _ us its h1 h2 => match us, its, h1, h2 with | [_, _, _], [_], _, _ => ⟨_, rfl, rfl⟩) sc_Setting___init__ len_Setting_init (b_Setting_init T h0 c_need_letters c_Free___init__)
end

end Pt_sett
section Pt_num
/-! ### numbers and their texts -/
/-- the codes of str(n) -/
def intL : Int → List Nat
  | .ofNat n => TL.numL n
  | .negSucc n => 45 :: TL.numL (n + 1)
theorem toString_S (n : Int) : (Str.ofString (toString n)) = SX.S (intL n) := by
  cases n with
  | ofNat n =>
    rw [← SX.S_tl (Str.ofString (toString (Int.ofNat n)))]
    exact congrArg SX.S (TL.tl_num n)
  | negSucc n =>
    rw [← SX.S_tl (Str.ofString (toString (Int.negSucc n)))]
    refine congrArg SX.S ?_
    have e : toString (Int.negSucc n) = "-" ++ Nat.repr (n + 1) := rfl
    rw [e, PyProof.Rows.signs_ofString, String.toList_append, List.map_append, Nat.toList_repr]
    rfl
theorem intL_nat (n : Nat) : intL (n : Int) = TL.numL n := rfl
theorem numL_45 (n : Nat) : 45 ∉ TL.numL n := TL.numL_free (.inl (by decide))
theorem intL_inj {m n : Int} (h : intL m = intL n) : m = n := by
  cases m with
  | ofNat m => cases n with
    | ofNat n => exact congrArg Int.ofNat (TL.numL_inj h)
    | negSucc n => exact absurd (show 45 ∈ TL.numL m by rw [show TL.numL m = 45 :: TL.numL (n + 1) from h]; exact List.mem_cons_self) (numL_45 m)
  | negSucc m => cases n with
    | ofNat n => exact absurd (show 45 ∈ TL.numL n by rw [← show 45 :: TL.numL (m + 1) = TL.numL n from h]; exact List.mem_cons_self) (numL_45 n)
    | negSucc n =>
      injection (show 45 :: TL.numL (m + 1) = 45 :: TL.numL (n + 1) from h) with _ h2
      have := TL.numL_inj h2
      congr 1
      omega
theorem intL_len {n : Int} {k : Nat} (hk : 0 < k) (h : n.natAbs < 10 ^ k) : (intL n).length ≤ k + 1 := by
  cases n with
  | ofNat n => exact Nat.le_trans (TL.numL_len hk h) (Nat.le_succ _)
  | negSucc n => exact Nat.succ_le_succ (TL.numL_len hk h)
theorem intL_codes (n : Int) : ∀ c ∈ intL n, c = 45 ∨ (48 ≤ c ∧ c ≤ 57) := by
  intro c hc
  cases n with
  | ofNat n => exact .inr (TL.numL_digits n c hc)
  | negSucc n =>
    rcases List.mem_cons.mp (show c ∈ 45 :: TL.numL (n + 1) from hc) with rfl | h
    · exact .inl rfl
    · exact .inr (TL.numL_digits _ c h)
theorem log_lt {n : Int} (h : n.natAbs < 10 ^ 100) : n.natAbs.log2 < 1920 := PySem.Flt.log2_lt_of (by decide) (Nat.lt_of_lt_of_le h (by decide +kernel))
/-- the figures of a text: without a sign ahead -/
def figL : List Nat → List Nat
  | 45 :: r => r
  | l => l
def digL : List Nat := (List.range 10).map (48 + ·)
theorem dig_S : ("0123456789" : Str) = SX.S digL := by decide +kernel
theorem dig_iff {c : Nat} : c ∈ digL ↔ 48 ≤ c ∧ c ≤ 57 := by
  unfold digL
  rw [List.mem_map]
  constructor
  · rintro ⟨a, ha, rfl⟩
    have := List.mem_range.mp ha
    omega
  · rintro ⟨h1, h2⟩
    exact ⟨c - 48, List.mem_range.mpr (by omega), by omega⟩
def okL (l : List Nat) : Bool := !decide (figL l = []) && (decide ((figL l).length ≤ 60) && (figL l).all fun c => decide (c ∈ digL))
def valL : List Nat → Int
  | 45 :: r => -((NumText.digitsVal r : Nat) : Int)
  | l => ((NumText.digitsVal l : Nat) : Int)
/-- the integer that a text tells just as str writes it, of at most 60 figures -/
def numO (l : List Nat) : Option Int := if okL l = true ∧ intL (valL l) = l then some (valL l) else none
theorem okL_parts {l : List Nat} (h : okL l = true) : figL l ≠ [] ∧ (figL l).length ≤ 60 ∧ NumText.AllDigits (figL l) := by
  unfold okL at h
  rw [Bool.and_eq_true, Bool.and_eq_true, Bool.not_eq_true', decide_eq_false_iff_not, decide_eq_true_iff, List.all_eq_true] at h
  exact ⟨h.1, h.2.1, fun c hc => dig_iff.mp (of_decide_eq_true (h.2.2 c hc))⟩
theorem fig_split (l : List Nat) : (∃ r, l = 45 :: r ∧ figL l = r ∧ valL l = -((NumText.digitsVal r : Nat) : Int)) ∨ (l.take 1 ≠ [45] ∧ figL l = l ∧ valL l = ((NumText.digitsVal l : Nat) : Int)) := by
  cases l with
  | nil => exact .inr ⟨by decide, rfl, rfl⟩
  | cons c r =>
    by_cases h : c = 45
    · subst h
      exact .inl ⟨r, rfl, rfl, rfl⟩
    · refine .inr ⟨fun e => h (by injection e), ?_, ?_⟩
      · unfold figL
        split
        · rename_i r' e
          injection e with e1 _
          exact absurd e1 h
        · rfl
      · unfold valL
        split
        · rename_i r' e
          injection e with e1 _
          exact absurd e1 h
        · rfl
theorem digitsVal_lt : ∀ (l : List Nat) (acc : Nat), NumText.AllDigits l → l.foldl (fun acc c => acc * 10 + (c - 48)) acc < (acc + 1) * 10 ^ l.length
  | [], acc, _ => by simp
  | c :: l, acc, h => by
    have hc := h c List.mem_cons_self
    have ih := digitsVal_lt l (acc * 10 + (c - 48)) fun d hd => h d (List.mem_cons_of_mem _ hd)
    rw [List.foldl_cons, List.length_cons, Nat.pow_succ]
    refine Nat.lt_of_lt_of_le ih ?_
    have h1 : acc * 10 + (c - 48) + 1 ≤ (acc + 1) * 10 := by omega
    have h2 := Nat.mul_le_mul_right (10 ^ l.length) h1
    rw [Nat.mul_assoc] at h2
    rw [Nat.mul_comm (10 ^ l.length) 10]
    exact h2
theorem digits_lt {l : List Nat} (h : NumText.AllDigits l) (hl : l.length ≤ 60) : NumText.digitsVal l < 10 ^ 60 := by
  have h1 := digitsVal_lt l 0 h
  refine Nat.lt_of_lt_of_le h1 ?_
  rw [Nat.zero_add, Nat.one_mul]
  exact Nat.pow_le_pow_right (by decide) hl
theorem valL_lt {l : List Nat} (h : okL l = true) : (valL l).natAbs < 10 ^ 60 := by
  obtain ⟨_, h2, h3⟩ := okL_parts h
  rcases fig_split l with ⟨r, rfl, e1, e2⟩ | ⟨_, e1, e2⟩
  · rw [e2, Int.natAbs_neg, Int.natAbs_natCast]
    rw [e1] at h2 h3
    exact digits_lt h3 h2
  · rw [e2, Int.natAbs_natCast]
    rw [e1] at h2 h3
    exact digits_lt h3 h2
theorem int_ok {l : List Nat} (h : okL l = true) : PySem.intText? (SX.S l) = some (valL l) ∧ (SX.S l).length ≤ 640 := by
  obtain ⟨h1, h2, h3⟩ := okL_parts h
  rcases fig_split l with ⟨r, rfl, e1, e2⟩ | ⟨_, e1, e2⟩
  · rw [e1] at h1 h2 h3
    rw [e2, sx_len, List.length_cons]
    exact ⟨PySem.intText_neg (x := SX.S (45 :: r)) (cs := r) rfl h3 h1 (by rw [sx_len, List.length_cons]; omega), by omega⟩
  · rw [e1] at h1 h2 h3
    rw [e2, sx_len]
    exact ⟨PySem.intText_digits (x := SX.S l) h3 h1 (by rw [sx_len]; omega), by omega⟩
theorem numO_intL {n m : Int} (h : numO (intL n) = some m) : m = n := by
  unfold numO at h
  split at h
  · rename_i c
    cases h
    exact intL_inj c.2
  · cases h
/-- what number_of tells -/
def numV (l : List Nat) (lo hi : Int) : V := match numO l with
  | some n => if lo ≤ n ∧ n ≤ hi then .int n else .non
  | none => .non

end Pt_num
section Pt_numof
/-! ### number_of -/
theorem dash_S : ("-" : Str) = SX.S [45] := rfl
theorem empty_S : ("" : Str) = SX.S [] := rfl
def spNumOf : Sp := fun vs H Q _ => ∃ (l : List Nat) (lo hi : Int), vs = [.str (SX.S l), .int lo, .int hi] ∧ l.length ≤ 1000000 ∧ ∀ H', Same H H' → Q (numV l lo hi) H'
theorem numV_none {l : List Nat} {lo hi : Int} (h : numO l = none) : numV l lo hi = .non := by
  unfold numV
  rw [h]
theorem numV_out {l : List Nat} {lo hi n : Int} (h : numO l = some n) (h2 : ¬ (lo ≤ n ∧ n ≤ hi)) : numV l lo hi = .non := by
  unfold numV
  rw [h]
  exact if_neg h2
theorem numV_in {l : List Nat} {lo hi n : Int} (h : numO l = some n) (h2 : lo ≤ n ∧ n ≤ hi) : numV l lo hi = .int n := by
  unfold numV
  rw [h]
  exact if_pos h2
theorem numO_bad {l : List Nat} (h : ¬ okL l = true) : numO l = none := if_neg fun z => h z.1
theorem all_dig (l : List Nat) : (l.map fun c => decide (c ∈ digL)).all id = l.all fun c => decide (c ∈ digL) := by
  rw [List.all_map]
  rfl
section
variable {P : Program} {w : World} {K : PySem.W.Frag} {mg : Str → Option Value} {base : Heap}
theorem d_number_of (T : Txt K mg) (F : FD K mg "number_of" s_number_of) : Dn P w K mg base 1 "number_of" s_number_of ["word", "least", "most"] (spNumOf) := by
  refine dn_of F (fun _ _ _ _ _ _ us hl => match us, hl with | [_, _, _], _ => rfl) sc_number_of (fun vs H Q E h => ?_) (fun fa cdv A outer s H vs Q E hr h => ?_)
  · obtain ⟨l, lo, hi, rfl, _⟩ := h
    rfl
  · obtain ⟨l, lo, hi, rfl, hl, k⟩ := h
    have hz : (SX.S l).length ≤ sizeLine := by
      rw [sx_len]
      exact Nat.le_trans hl (by decide)
    refine ⟨_, PSs.nox (pss_cons (ps_set (i := 3) sc_number_of.nd rfl (Or.inl rfl) (pe_ifExp (pt_cmpR op_eq (pe_slice sl_str (pv 0) po_none (po_some pe_int)) pe_str (nomark _)) (pe_slice sl_str (pv 0) (po_some pe_int) po_none) (pv 0)))
 (pss_cons (ps_if (PW.pt (pw_or (pt_cmpR op_eq (pv 3) pe_str (nomark _)) (pw_or (pt_cmpR op_gt (pe_callB cl_lenS (by rfl) T.n_len (by decide +kernel) (pa_cons (pv 3) pa_nil)) (pe_gv rfl T.g_MOST_FIGURES) (nomark _)) (pw_or1 (pt_not (pt_val (pe_callB (cr_all rfl) (by rfl) T.n_all (by decide +kernel) (pa_cons (pe_lc (own := [("sign", 5)]) (tt := tYes) (g := gName 5) rfl sc_number_of.nd (pi_str (pv 3)) (blkOk_by (N := ["word", "least", "most", "digits", "number", "sign"]) (sc := defScope s_number_of) (by decide +kernel)) (fun _ _ _ _ _ => (pg_name (i := 5) sc_number_of.nd rfl (Or.inl rfl))) (fun _ _ _ _ _ => pts_nil) (fun _ _ _ _ _ => (pe_cmpR op_in1 (pv 5) pe_str (by rfl)))) pa_nil)) (by intro _; rfl)))))))
 (pss_one (ps_ret pe_non))
 pss_nil)
 (pss_cons (ps_set (i := 4) sc_number_of.nd rfl (Or.inl rfl) (pe_callTy cl_intS (by rfl) T.n_int (by decide +kernel) (pa_cons (pv 0) pa_nil)))
 (pss_one (ps_ret (pe_ifExp (PW.pt (pw_and (pt_cmpR op_eq (pe_callTy cl_strI (by rfl) T.n_str (by decide +kernel) (pa_cons (pv 4) pa_nil)) (pv 0) (nomark _)) (pw_and1 (pt_chain op_le op_le (pv 1) (pv 4) (pv 2))))) (pv 4) pe_non)))))), ?_⟩
    refine w_start (σ := [some (.str (SX.S l)), some (.int lo), some (.int hi), none, none, none]) rfl ?_
    with_reducible refine w_join (fun σ' H' => σ' = [some (.str (SX.S l)), some (.int lo), some (.int hi), some (.str (SX.S (figL l))), none, none] ∧ H' = H) (fun X hX => ?_) ?_
    · repeat walk_at "st"
      rw [cutS_to (by decide), dash_S, eqS]
      rcases fig_split l with ⟨r, rfl, e1, _⟩ | ⟨h1, e1, _⟩
      · refine w_iteT (by rfl) ?_
        repeat walk_at "st"
        rw [cutS_from (by decide)]
        exact hX _ _ ⟨by rw [e1]; rfl, rfl⟩
      · refine w_iteF (decide_eq_false h1) ?_
        repeat walk_at "st"
        exact hX _ _ ⟨by rw [e1], rfl⟩
    · rintro σ' H' ⟨rfl, rfl⟩
      have hf : (SX.S (figL l)).length ≤ sizeLine := by
        rw [sx_len]
        refine Nat.le_trans ?_ hz
        rw [sx_len]
        rcases fig_split l with ⟨r, rfl, e1, _⟩ | ⟨_, e1, _⟩
        · rw [e1, List.length_cons]
          omega
        · rw [e1]
          exact Nat.le_refl _
      with_reducible refine w_join (fun σ' H'' => okL l = true ∧ σ' = [some (.str (SX.S l)), some (.int lo), some (.int hi), some (.str (SX.S (figL l))), none, none] ∧ Same H' H'') (fun X hX => ?_) ?_
      · repeat walk_at "st"
        rw [empty_S, eqS]
        refine w_ite (fun h1 => ?_) (fun h1 => ?_)
        · repeat walk_at "st"
          rw [numV_none (numO_bad fun z => (okL_parts z).1 h1)] at k
          exact k _ (Same.refl _)
        · repeat walk_at "st"
          rw [sx_len]
          refine w_ite (fun h2 => ?_) (fun h2 => ?_)
          · repeat walk_at "st"
            rw [numV_none (numO_bad fun z => by have := (okL_parts z).2.1; omega)] at k
            exact k _ (Same.refl _)
          · repeat walk_at "st"
            refine lc_str H' (SX.S (figL l)) (fun c => .bl (decide (c ∈ digL))) (fun R hR => ?_) hf (fun c hc H1 e R hR => ?_) fun D H1 h3 h4 h5 => ?_
            · repeat walk_at "st"
              exact hR
            · simp only [wipe, List.map, List.set]
              repeat walk_at "st"
              rw [dig_S]
              exact hR _ (Same.refl _)
            · repeat walk_at "st"
              refine w_all (bs := (figL l).map fun c => decide (c ∈ digL)) (by rw [h5, List.map_map]; rfl) ?_
              rw [all_dig]
              repeat walk_at "st"
              cases h6 : (figL l).all fun c => decide (c ∈ digL) with
              | false =>
                refine w_iteT rfl ?_
                repeat walk_at "st"
                have h7 : ¬ okL l = true := by
                  unfold okL
                  rw [h6]
                  simp
                rw [numV_none (numO_bad h7)] at k
                exact k _ h4
              | true =>
                refine w_iteF rfl ?_
                repeat walk_at "st"
                refine hX _ _ ⟨?_, rfl, h4⟩
                unfold okL
                rw [h6, decide_eq_false h1, decide_eq_true (show (figL l).length ≤ 60 by omega)]
                rfl
      · rintro σ' H1 ⟨ok, rfl, e⟩
        obtain ⟨hi1, hi2⟩ := int_ok ok
        repeat walk_at "st"
        refine w_intS hi1 hi2 ?_
        repeat walk_at "st"
        refine w_strI (log_lt (Nat.lt_of_lt_of_le (valL_lt ok) (by decide +kernel))) ?_
        repeat walk_at "st"
        rw [toString_S, eqS]
        refine w_ite (fun h1 => ?_) (fun h1 => ?_)
        · have hn : numO l = some (valL l) := if_pos ⟨ok, h1⟩
          repeat walk_at "st"
          refine w_ite (fun h2 => ?_) (fun h2 => ?_)
          · repeat walk_at "st"
            refine w_ite (fun h3 => ?_) (fun h3 => ?_)
            · repeat walk_at "st"
              rw [numV_in hn ⟨h2, h3⟩] at k
              exact k _ e
            · repeat walk_at "st"
              rw [numV_out hn fun z => h3 z.2] at k
              exact k _ e
          · repeat walk_at "st"
            rw [numV_out hn fun z => h2 z.1] at k
            exact k _ e
        · repeat walk_at "st"
          rw [numV_none (if_neg fun z => h1 z.2)] at k
          exact k _ e
end

end Pt_numof
section Pt_great
/-! ### the staircases, plainly -/
def tri (c : Int) : Int := c * (c + 1) / 2
def longO : LimK → Int → Option Int
  | .short, n => some n
  | .standing, n => some (n + 1)
  | _, _ => none
/-- so many letters the texts of c codes have at most -/
def greatO (k : LimK) (n c : Int) : Int := match k with
  | .cleared => c / n * (n * (n + 1) / 2) + c % n * (c % n + 1) / 2
  | .free => tri c
  | .short => if c ≤ n then tri c else tri n + (c - n) * n
  | .standing => if c ≤ n + 1 then tri c else tri (n + 1) + (c - (n + 1)) * (n + 1)
/-- the letters of the code behind c codes -/
def stepO (k : LimK) (n c : Int) : Int := match k with
  | .cleared => 1 + c % n
  | .free => c + 1
  | .short => min (c + 1) n
  | .standing => min (c + 1) (n + 1)
theorem tri_step (c : Int) : tri (c + 1) = tri c + (c + 1) := by
  unfold tri
  have e : (c + 1) * (c + 1 + 1) = c * (c + 1) + (c + 1) * 2 := by
    rw [show c + 1 + 1 = c + 2 by omega, Int.mul_add, Int.mul_comm (c + 1) c]
  rw [e, Int.add_mul_ediv_right _ _ (by decide)]
theorem cap_step {n c : Int} (h : 0 ≤ c) : (if c + 1 ≤ n then tri (c + 1) else tri n + (c + 1 - n) * n) = (if c ≤ n then tri c else tri n + (c - n) * n) + min (c + 1) n := by
  by_cases h1 : c + 1 ≤ n
  · rw [if_pos h1, if_pos (by omega), tri_step]
    omega
  · by_cases h2 : c ≤ n
    · have e : c = n := by omega
      subst e
      rw [if_neg h1, if_pos h2, show c + 1 - c = 1 by omega]
      omega
    · rw [if_neg h1, if_neg h2, show c + 1 - n = (c - n) + 1 by omega, Int.add_mul]
      omega
theorem great_step {k : LimK} {n c : Int} (ok : limOk k n) (h : 0 ≤ c) : greatO k n (c + 1) = greatO k n c + stepO k n c := by
  cases k with
  | free => exact tri_step c
  | short => exact cap_step h
  | standing => exact cap_step h
  | cleared =>
    have hn : 1 ≤ n := ok.1
    obtain ⟨q, eq⟩ : ∃ q, q = c / n := ⟨_, rfl⟩
    obtain ⟨r, er⟩ : ∃ r, r = c % n := ⟨_, rfl⟩
    have r0 : 0 ≤ r := by rw [er]; exact Int.emod_nonneg _ (by omega)
    have r1 : r < n := by rw [er]; exact Int.emod_lt_of_pos _ (by omega)
    have ec : r + n * q = c := by rw [er, eq]; exact Int.emod_add_mul_ediv c n
    show (c + 1) / n * tri n + tri ((c + 1) % n) = (c / n * tri n + tri (c % n)) + (1 + c % n)
    rw [← eq, ← er]
    by_cases h1 : r + 1 < n
    · obtain ⟨e1, e2⟩ := (Int.ediv_emod_unique (a := c + 1) (b := n) (q := q) (r := r + 1) (by omega)).mpr ⟨by omega, by omega, h1⟩
      rw [e1, e2, tri_step]
      omega
    · have e3 : r + 1 = n := by omega
      obtain ⟨e1, e2⟩ := (Int.ediv_emod_unique (a := c + 1) (b := n) (q := q + 1) (r := 0) (by omega)).mpr ⟨by rw [Int.mul_add]; omega, by omega, by omega⟩
      have e4 : tri n = tri r + (r + 1) := by rw [← e3, tri_step]
      rw [e1, e2, Int.add_mul, show tri 0 = 0 from rfl]
      omega
theorem step_pos {k : LimK} {n c : Int} (ok : limOk k n) (h : 0 ≤ c) : 1 ≤ stepO k n c := by
  cases k with
  | free => show 1 ≤ c + 1; omega
  | short => have := ok.1; show 1 ≤ min (c + 1) n; omega
  | standing => have := ok.1; show 1 ≤ min (c + 1) (n + 1); omega
  | cleared =>
    have := ok.1
    have := Int.emod_nonneg c (show n ≠ 0 by omega)
    show 1 ≤ 1 + c % n
    omega
theorem great_zero {k : LimK} {n : Int} (ok : limOk k n) : greatO k n 0 = 0 := by
  cases k with
  | free => rfl
  | short => have := ok.1; show (if (0 : Int) ≤ n then tri 0 else _) = 0; rw [if_pos (by omega)]; rfl
  | standing => have := ok.1; show (if (0 : Int) ≤ n + 1 then tri 0 else _) = 0; rw [if_pos (by omega)]; rfl
  | cleared => show 0 / n * tri n + tri (0 % n) = 0; rw [Int.zero_ediv, Int.zero_emod, Int.zero_mul]; rfl
theorem great_grow {k : LimK} {n : Int} (ok : limOk k n) : ∀ (d : Nat) (a : Int), 0 ≤ a → greatO k n a + d ≤ greatO k n (a + d)
  | 0, a, _ => by simp
  | d + 1, a, h => by
    have e := great_step (k := k) ok (show 0 ≤ a + d by omega)
    have p := step_pos (k := k) ok (show 0 ≤ a + d by omega)
    have i := great_grow ok d a h
    rw [show a + ((d + 1 : Nat) : Int) = a + d + 1 by omega, e]
    omega
theorem great_mono {k : LimK} {n a b : Int} (ok : limOk k n) (h : 0 ≤ a) (hab : a ≤ b) : greatO k n a + (b - a) ≤ greatO k n b := by
  have i := great_grow ok (b - a).toNat a h
  rw [show ((b - a).toNat : Int) = b - a by omega, show a + (b - a) = b by omega] at i
  exact i
theorem great_ge {k : LimK} {n c : Int} (ok : limOk k n) (h : 0 ≤ c) : c ≤ greatO k n c := by
  have i := great_mono (a := 0) ok (by decide) h
  rw [great_zero ok] at i
  omega
/-- the least c with so many letters -/
def Least (k : LimK) (n z r : Int) : Prop := 0 ≤ r ∧ z ≤ greatO k n r ∧ ∀ c, 0 ≤ c → c < r → greatO k n c < z
theorem Least.one {k : LimK} {n z r r' : Int} (a : Least k n z r) (b : Least k n z r') : r = r' := by
  obtain ⟨a1, a2, a3⟩ := a
  obtain ⟨b1, b2, b3⟩ := b
  rcases Int.lt_trichotomy r r' with h | h | h
  · have := b3 r a1 h
    omega
  · exact h
  · have := a3 r' b1 h
    omega

end Pt_great
section Pt_lev
/-! ### need_number, need_size, need_setting, levels.py -/
def spNeedNum : Sp := fun vs H Q _ => ∃ i lo hi : Int, vs = [.int i, .int lo, .int hi] ∧ lo ≤ i ∧ i ≤ hi ∧ Q .non H
def spNeedSize : Sp := fun vs H Q _ => ∃ i : Int, vs = [.int i] ∧ 0 ≤ i ∧ i ≤ 1000000000000000000000000000000 ∧ Q .non H
def spNeedSet (K : PySem.W.Frag) : Sp := fun vs H Q _ => ∃ a S z, vs = [.ref a, .str z] ∧ SetAt K H a S ∧ Q .non H
def optI : Option Int → V
  | none => .non
  | some n => .int n
def spLongC (K : PySem.W.Frag) : Sp := fun vs H Q _ => ∃ a S, vs = [.ref a] ∧ SetAt K H a S ∧ Q (optI (longO S.lk S.ln)) H
def spGreat (K : PySem.W.Frag) : Sp := fun vs H Q _ => ∃ a S c, vs = [.ref a, .int c] ∧ SetAt K H a S ∧ limOk S.lk S.ln ∧ 0 ≤ c ∧ c ≤ 1000000000000000000000000000000 ∧ Q (.int (greatO S.lk S.ln c)) H
def spFewOf (K : PySem.W.Frag) : Sp := fun vs H Q _ => ∃ a S z, vs = [.ref a, .int z] ∧ SetAt K H a S ∧ limOk S.lk S.ln ∧ 0 ≤ z ∧ z ≤ 1000000000000000000000000000000 ∧ ∀ r, Least S.lk S.ln z r → r ≤ z → Q (.int r) H
theorem log_big {n : Int} (h0 : 0 ≤ n) (h : n ≤ 1000000000000000000000000000000) : n.natAbs.log2 < 101 := PySem.Flt.log2_lt_of (by decide) (Nat.lt_of_le_of_lt (show n.natAbs ≤ 1000000000000000000000000000000 by omega) (by decide +kernel))
theorem lim_small {k : LimK} {n : Int} (ok : limOk k n) : 0 ≤ n ∧ n ≤ 4096 := by
  cases k with
  | free => have e : n = 0 := ok; omega
  | short => have := ok.1; have := ok.2; omega
  | cleared => have := ok.1; have := ok.2; omega
  | standing => exact ⟨ok.1, ok.2⟩
theorem small_mul {i j : Int} (h0 : 0 ≤ j) (h1 : j ≤ 1000000000000) : CMulA i j := .inl (.inr ⟨by omega, by omega⟩)
theorem small_mul' {i j : Int} (h0 : 0 ≤ i) (h1 : i ≤ 1000000000000) : CMulA i j := .inl (.inl ⟨by omega, by omega⟩)
theorem big_mul {i j : Int} (h0 : 0 ≤ i) (h1 : i ≤ 1000000000000000000000000000001) (h2 : 0 ≤ j) (h3 : j ≤ 1000000000000000000000000000001) : CMulA i j := by
  have a : i.natAbs.log2 < 101 := PySem.Flt.log2_lt_of (by decide) (Nat.lt_of_le_of_lt (show i.natAbs ≤ 1000000000000000000000000000001 by omega) (by decide +kernel))
  have b : j.natAbs.log2 < 101 := PySem.Flt.log2_lt_of (by decide) (Nat.lt_of_le_of_lt (show j.natAbs ≤ 1000000000000000000000000000001 by omega) (by decide +kernel))
  exact .inr (by unfold CMulW; omega)
theorem two_div {i : Int} : CDivW i 2 := ⟨by decide, by decide +kernel⟩
theorem small_div {i j : Int} (h0 : 1 ≤ j) (h : j ≤ 5000) : CDivW i j := ⟨by omega, PySem.Flt.log2_lt_of (by decide) (Nat.lt_of_le_of_lt (show j.natAbs ≤ 5000 by omega) (by decide +kernel))⟩
set_option hygiene false in
local macro_rules | `(tactic| walk_at "st") => `(tactic| first
  | ((with_reducible refine' w_aug ?h ?_); (case h => exact rfl))
  | (with_reducible first | refine w_bm ?_ | refine w_fldAug ?_ | refine w_seqU ?_ | refine w_enumL ?_)
  | ((with_reducible refine' w_tyL ?h ?_); (case h => walk_at "hp"))
  | ((with_reducible refine' w_enumLAt ?h ?_); (case h => walk_at "hp")))

local macro_rules | `(tactic| walk_at "cond") => `(tactic| first | exact two_div | (refine small_div ?_ ?_ <;> omega) | (refine small_mul ?_ ?_ <;> omega) | (refine small_mul' ?_ ?_ <;> omega) | (refine big_mul ?_ ?_ ?_ ?_ <;> omega))
section
variable {P : Program} {w : World} {K : PySem.W.Frag} {mg : Str → Option Value} {base : Heap}
theorem d_need_number (T : Txt K mg) (F : FD K mg "need_number" s_need_number) (c_is_between : Dn P w K mg base 2 "is_between" s_is_between ["value", "least", "most"] (spBetween)) : Dn P w K mg base 3 "need_number" s_need_number ["value", "least", "most"] (spNeedNum) := by
  refine dn_of F (fun _ _ _ _ _ _ us hl => match us, hl with | [_, _, _], _ => rfl) sc_need_number (fun vs H Q E h => ?_) (fun fa cdv A outer s H vs Q E hr h => ?_)
  · obtain ⟨i, lo, hi, rfl, _⟩ := h
    rfl
  · obtain ⟨i, lo, hi, rfl, h1, h2, k⟩ := h
    refine ⟨_, PSs.nox (pss_one (ps_if (pt_not (pt_val (pe_d c_is_between hr (by decide) rfl (pa_cons (pv 0) (pa_cons (pv 1) (pa_cons (pv 2) pa_nil)))) (by intro _; rfl)))
 (pss_one ps_never)
 pss_nil)), ?_⟩
    refine w_start (σ := [some (.int i), some (.int lo), some (.int hi)]) rfl ?_
    repeat walk_at "st"
    refine ⟨.int i, "int", lo, hi, rfl, .int i, ?_⟩
    have e : betV lo hi (.int i) = true := by
      show (decide (lo ≤ i) && decide (i ≤ hi)) = true
      rw [decide_eq_true h1, decide_eq_true h2]
      rfl
    repeat walk_at "st"
    refine w_iteF (by rw [e]; rfl) ?_
    repeat walk_at "st"
    exact k
theorem d_need_size (T : Txt K mg) (F : FD K mg "need_size" s_need_size) (c_need_number : Dn P w K mg base 3 "need_number" s_need_number ["value", "least", "most"] (spNeedNum)) : Dn P w K mg base 4 "need_size" s_need_size ["value"] (spNeedSize) := by
  refine dn_of F (fun _ _ _ _ _ _ us hl => match us, hl with | [_], _ => rfl) sc_need_size (fun vs H Q E h => ?_) (fun fa cdv A outer s H vs Q E hr h => ?_)
  · obtain ⟨i, rfl, _⟩ := h
    rfl
  · obtain ⟨i, rfl, h1, h2, k⟩ := h
    refine ⟨_, PSs.nox (pss_one (ps_expr (pe_d c_need_number hr (by decide) rfl (pa_cons (pv 0) (pa_cons pe_int (pa_cons (pe_gv rfl T.g_MOST_SIZE) pa_nil)))))), ?_⟩
    refine w_start (σ := [some (.int i)]) rfl ?_
    repeat walk_at "st"
    refine ⟨i, 0, _, rfl, h1, h2, ?_⟩
    repeat walk_at "st"
    exact k
theorem d_need_setting (T : Txt K mg) (F : FD K mg "need_setting" s_need_setting) : Dn P w K mg base 1 "need_setting" s_need_setting ["value", "part"] (spNeedSet K) := by
  refine dn_of F (fun _ _ _ _ _ _ us hl => match us, hl with | [_, _], _ => rfl) sc_need_setting (fun vs H Q E h => ?_) (fun fa cdv A outer s H vs Q E hr h => ?_)
  · obtain ⟨a, S, z, rfl, _⟩ := h
    rfl
  · obtain ⟨a, S, z, rfl, ⟨dx, l, ha, _⟩, k⟩ := h
    refine ⟨_, PSs.nox (pss_one (ps_if (pt_not (pt_val (pe_callB call_isi (by rfl) T.n_isinstance (by decide +kernel) (pa_cons (pv 0) (pa_cons (pe_gc (x := "Setting") rfl (T.gc_Setting)) pa_nil))) (by intro _; rfl)))
 (pss_one ps_never)
 pss_nil)), ?_⟩
    refine w_start (σ := [some (.ref a), some (.str z)]) rfl ?_
    repeat walk_at "st"
    refine w_isaT ha (T.cl_set _) (T.isa_set _) ?_
    repeat walk_at "st"
    exact k
theorem d_longest_code (T : Txt K mg) (F : FD K mg "longest_code" s_longest_code) (c_set_limit : ∀ h : Bool, Fr P w K mg base 1 (gtA K (cSet K h) "limit") ["self"] [] (spSetLimit K h)) : Dn P w K mg base 3 "longest_code" s_longest_code ["setting"] (spLongC K) := by
  refine dn_of F (fun _ _ _ _ _ _ us hl => match us, hl with | [_], _ => rfl) sc_longest_code (fun vs H Q E h => ?_) (fun fa cdv A outer s H vs Q E hr h => ?_)
  · obtain ⟨a, S, rfl, _⟩ := h
    rfl
  · obtain ⟨a, S, rfl, hS, k⟩ := h
    obtain ⟨dx, l, ha, ⟨dl, hl⟩, q1, q2⟩ := hS
    obtain ⟨lk, elk⟩ : ∃ x, x = S.lk := ⟨_, rfl⟩
    obtain ⟨n, en⟩ : ∃ x, x = S.ln := ⟨_, rfl⟩
    rw [← elk, ← en] at hl k
    refine ⟨_, PSs.nox (pss_cons (ps_set (i := 1) sc_longest_code.nd rfl (Or.inl rfl) (pe_any fun h => pe_pr (c_set_limit h) (T.cl_set h) (T.pr_limit h) hr (by decide) (pv 0)))
 (pss_cons (ps_if (pt_val (pe_callB call_isi (by rfl) T.n_isinstance (by decide +kernel) (pa_cons (pv 1) (pa_cons (pe_gc (x := "Short") rfl (T.gc_lim .short)) pa_nil))) (by intro _; rfl))
 (pss_one (ps_ret (pe_fld (pv 1) rfl)))
 pss_nil)
 (pss_one (ps_ret (pe_ifExp (pt_val (pe_callB call_isi (by rfl) T.n_isinstance (by decide +kernel) (pa_cons (pv 1) (pa_cons (pe_gc (x := "Standing") rfl (T.gc_lim .standing)) pa_nil))) (by intro _; rfl)) (pe_op op_add (pe_fld (pv 1) rfl) pe_int) pe_non))))), ?_⟩
    refine w_start (σ := [some (.ref a), none]) rfl ?_
    repeat walk_at "st"
    refine ⟨S.hid, ?_⟩
    repeat walk_at "st"
    refine ⟨a, dx, l, (S.q : Int), rfl, ha, ?_⟩
    repeat walk_at "st"
    with_reducible refine w_seq ?_
    repeat walk_at "st"
    refine w_isaB hl (T.cl_lim lk) (T.isa_k lk .short) ?_
    cases lk with
    | short =>
      repeat walk_at "st"
      exact k
    | free =>
      repeat walk_at "st"
      refine w_isaB hl (T.cl_lim _) (T.isa_k _ .standing) ?_
      repeat walk_at "st"
      exact k
    | cleared =>
      repeat walk_at "st"
      refine w_isaB hl (T.cl_lim _) (T.isa_k _ .standing) ?_
      repeat walk_at "st"
      exact k
    | standing =>
      repeat walk_at "st"
      refine w_isaB hl (T.cl_lim _) (T.isa_k _ .standing) ?_
      repeat walk_at "st"
      exact k
theorem d_greatest_of (T : Txt K mg) (F : FD K mg "greatest_of" s_greatest_of) (c_longest_code : Dn P w K mg base 3 "longest_code" s_longest_code ["setting"] (spLongC K)) (c_set_limit : ∀ h : Bool, Fr P w K mg base 1 (gtA K (cSet K h) "limit") ["self"] [] (spSetLimit K h)) : Dn P w K mg base 5 "greatest_of" s_greatest_of ["setting", "codes"] (spGreat K) := by
  refine dn_of F (fun _ _ _ _ _ _ us hl => match us, hl with | [_, _], _ => rfl) sc_greatest_of (fun vs H Q E h => ?_) (fun fa cdv A outer s H vs Q E hr h => ?_)
  · obtain ⟨a, S, c, rfl, _⟩ := h
    rfl
  · obtain ⟨a, S, c, rfl, hS, ok, c0, c1, k⟩ := h
    obtain ⟨dx, l, ha, ⟨dl, hl⟩, q1, q2⟩ := id hS
    obtain ⟨lk, elk⟩ : ∃ x, x = S.lk := ⟨_, rfl⟩
    obtain ⟨n, en⟩ : ∃ x, x = S.ln := ⟨_, rfl⟩
    rw [← elk, ← en] at hl k ok
    obtain ⟨n0, n1⟩ := lim_small ok
    refine ⟨_, PSs.nox (pss_cons (ps_set (i := 2) sc_greatest_of.nd rfl (Or.inl rfl) (pe_any fun h => pe_pr (c_set_limit h) (T.cl_set h) (T.pr_limit h) hr (by decide) (pv 0)))
 (pss_cons (ps_if (pt_val (pe_callB call_isi (by rfl) T.n_isinstance (by decide +kernel) (pa_cons (pv 2) (pa_cons (pe_gc (x := "Cleared") rfl (T.gc_lim .cleared)) pa_nil))) (by intro _; rfl))
 (pss_cons (ps_set (i := 3) sc_greatest_of.nd rfl (Or.inl rfl) (pe_op op_mod (pv 1) (pe_fld (pv 2) rfl)))
 (pss_one (ps_ret (pe_op op_add (pe_op op_mulA (pe_op op_fdivW (pv 1) (pe_fld (pv 2) rfl)) (pe_op op_fdivW (pe_op op_mulA (pe_fld (pv 2) rfl) (pe_op op_add (pe_fld (pv 2) rfl) pe_int)) pe_int)) (pe_op op_fdivW (pe_op op_mulA (pv 3) (pe_op op_add (pv 3) pe_int)) pe_int)))))
 pss_nil)
 (pss_cons (ps_set (i := 4) sc_greatest_of.nd rfl (Or.inl rfl) (pe_d c_longest_code hr (by decide) rfl (pa_cons (pv 0) pa_nil)))
 (pss_cons (ps_if (PW.pt (pw_or (pt_cmpR op_isN' (pv 4) pe_non (nomark _)) (pw_or1 (pt_cmpR op_le (pv 1) (pv 4) (nomark _)))))
 (pss_one (ps_ret (pe_op op_fdivW (pe_op op_mulA (pv 1) (pe_op op_add (pv 1) pe_int)) pe_int)))
 pss_nil)
 (pss_one (ps_ret (pe_op op_add (pe_op op_fdivW (pe_op op_mulA (pv 4) (pe_op op_add (pv 4) pe_int)) pe_int) (pe_op op_mulA (pe_op op_sub (pv 1) (pv 4)) (pv 4))))))))), ?_⟩
    refine w_start (σ := [some (.ref a), some (.int c), none, none, none]) rfl ?_
    repeat walk_at "st"
    refine ⟨S.hid, ?_⟩
    repeat walk_at "st"
    refine ⟨a, dx, l, (S.q : Int), rfl, ha, ?_⟩
    repeat walk_at "st"
    with_reducible refine w_seq ?_
    repeat walk_at "st"
    refine w_isaB hl (T.cl_lim lk) (T.isa_k lk .cleared) ?_
    cases lk with
    | cleared =>
      have m1 : 1 ≤ n := ok.1
      have r0 := Int.emod_nonneg c (show n ≠ 0 by omega)
      have r1 := Int.emod_lt_of_pos c (show 0 < n by omega)
      have t1 : n * (n + 1) ≤ 4096 * 4097 := Int.mul_le_mul (by omega) (by omega) (by omega) (by omega)
      have t0 : 0 ≤ n * (n + 1) := Int.mul_nonneg (by omega) (by omega)
      repeat walk_at "st"
      exact k
    | free =>
      repeat walk_at "st"
      refine ⟨a, _, rfl, hS, ?_⟩
      rw [← elk, ← en]
      repeat walk_at "st"
      with_reducible refine w_seq ?_
      rw [show optI (longO .free n) = V.non from rfl]
      repeat walk_at "st"
      exact k
    | short =>
      repeat walk_at "st"
      refine ⟨a, _, rfl, hS, ?_⟩
      rw [← elk, ← en]
      repeat walk_at "st"
      with_reducible refine w_seq ?_
      rw [show optI (longO .short n) = V.int n from rfl]
      repeat walk_at "st"
      refine w_ite (fun h1 => ?_) (fun h1 => ?_)
      · repeat walk_at "st"
        rw [show greatO .short n c = tri c from if_pos h1] at k
        exact k
      · repeat walk_at "st"
        rw [show greatO .short n c = tri n + (c - n) * n from if_neg h1] at k
        exact k
    | standing =>
      repeat walk_at "st"
      refine ⟨a, _, rfl, hS, ?_⟩
      rw [← elk, ← en]
      repeat walk_at "st"
      with_reducible refine w_seq ?_
      rw [show optI (longO .standing n) = V.int (n + 1) from rfl]
      repeat walk_at "st"
      refine w_ite (fun h1 => ?_) (fun h1 => ?_)
      · repeat walk_at "st"
        rw [show greatO .standing n c = tri c from if_pos h1] at k
        exact k
      · repeat walk_at "st"
        rw [show greatO .standing n c = tri (n + 1) + (c - (n + 1)) * (n + 1) from if_neg h1] at k
        exact k
theorem d_fewest_of (T : Txt K mg) (F : FD K mg "fewest_of" s_fewest_of) (c_greatest_of : Dn P w K mg base 5 "greatest_of" s_greatest_of ["setting", "codes"] (spGreat K)) : Dn P w K mg base 6 "fewest_of" s_fewest_of ["setting", "size"] (spFewOf K) := by
  refine dn_of F (fun _ _ _ _ _ _ us hl => match us, hl with | [_, _], _ => rfl) sc_fewest_of (fun vs H Q E h => ?_) (fun fa cdv A outer s H vs Q E hr h => ?_)
  · obtain ⟨a, S, z, rfl, _⟩ := h
    rfl
  · obtain ⟨a, S, z, rfl, hS, ok, z0, z1, k⟩ := h
    refine ⟨_, PSs.nox (pss_cons (ps_par (i := 2) (j := 3) (by rfl) sc_fewest_of.nd rfl rfl (by decide) rfl rfl (pa_cons pe_int (pa_cons (pv 1) pa_nil)) (by rfl))
 (pss_cons (ps_while PassesOwn.never (pt_cmpR op_lt (pv 2) (pv 3) (nomark _))
 (pss_cons (ps_set (i := 4) sc_fewest_of.nd rfl (Or.inl rfl) (pe_op op_fdivW (pe_op op_add (pv 2) (pv 3)) pe_int))
 (pss_one (ps_if (pt_cmpR op_ge (pe_d c_greatest_of hr (by decide) rfl (pa_cons (pv 0) (pa_cons (pv 4) pa_nil))) (pv 1) (nomark _))
 (pss_one (ps_set (i := 3) sc_fewest_of.nd rfl (Or.inl rfl) (pv 4)))
 (pss_one (ps_set (i := 2) sc_fewest_of.nd rfl (Or.inl rfl) (pe_op op_add (pv 4) pe_int)))))))
 (pss_one (ps_ret (pv 2))))), ?_⟩
    refine w_start (σ := [some (.ref a), some (.int z), none, none, none]) rfl ?_
    repeat walk_at "st"
    with_reducible refine w_seq ?_
    refine ⟨fun m σ' H' => ∃ (lo hi : Int) (o : Option V), σ' = [some (.ref a), some (.int z), some (.int lo), some (.int hi), o] ∧ m = (hi - lo).toNat ∧ H' = H ∧ 0 ≤ lo ∧ lo ≤ hi ∧ hi ≤ z ∧ z ≤ greatO S.lk S.ln hi ∧ ∀ c, 0 ≤ c → c < lo → greatO S.lk S.ln c < z,
      ⟨_, 0, z, none, rfl, rfl, rfl, by omega, z0, Int.le_refl _, great_ge ok z0, fun c h1 h2 => by omega⟩, ?_⟩
    rintro m σ' H' ⟨lo, hi, o, rfl, rfl, rfl, l0, lh, hz, hg, hlow⟩
    repeat walk_at "st"
    refine w_ite (fun h1 => ?_) (fun h1 => ?_)
    · refine ⟨_, fun σ' H' h => h, ?_⟩
      repeat walk_at "st"
      have e : (lo + hi) / 2 < hi ∧ lo ≤ (lo + hi) / 2 := by omega
      refine ⟨a, S, (lo + hi) / 2, rfl, hS, ok, by omega, by omega, ?_⟩
      repeat walk_at "st"
      refine w_ite (fun h2 => ?_) (fun h2 => ?_)
      · repeat walk_at "st"
        exact ⟨_, by omega, lo, (lo + hi) / 2, _, rfl, rfl, rfl, l0, by omega, by omega, h2, hlow⟩
      · repeat walk_at "st"
        refine ⟨_, by omega, (lo + hi) / 2 + 1, hi, _, rfl, rfl, rfl, by omega, by omega, hz, hg, fun c c0 c1 => ?_⟩
        have := great_mono (k := S.lk) (b := (lo + hi) / 2) ok c0 (by omega)
        omega
    · repeat walk_at "st"
      have e : lo = hi := by omega
      subst e
      exact k lo ⟨l0, hg, hlow⟩ hz
end

end Pt_lev
section Pt_few
/-! ### Fewest -/
abbrev cFew (K : PySem.W.Frag) : Addr := He.ga K "Fewest"
def FewAt (K : PySem.W.Frag) (H : Hp) (x : Addr) (S : Sg) : Prop := ∃ dx a, H x = some (.ins (cFew K) dx [("setting", .ref a)]) ∧ SetAt K H a S
theorem FewAt.same {K : PySem.W.Frag} {H H' : Hp} {x : Addr} {S : Sg} (e : Same H H') (h : FewAt K H x S) : FewAt K H' x S := let ⟨dx, a, h, h2⟩ := h; ⟨dx, a, e _ _ h, h2.same e⟩
def BigI (z : Int) : Prop := 0 ≤ z ∧ z ≤ 1000000000000000000000000000000
def spFewInit (K : PySem.W.Frag) : Sp := fun vs H Q _ => ∃ x dx a S, vs = [.ref x, .ref a] ∧ H x = some (.ins (cFew K) dx []) ∧ SetAt K H a S ∧ Q .non (upd H x (.ins (cFew K) dx [("setting", .ref a)]))
def spToldF (K : PySem.W.Frag) : Sp := fun vs H Q _ => ∃ a S z, vs = [.ref a, .int z] ∧ SetAt K H a S ∧ limOk S.lk S.ln ∧ BigI z ∧ ∀ r, Least S.lk S.ln z r → r ≤ z → Q (.int r) H
def spFewCall (K : PySem.W.Frag) : Sp := fun vs H Q _ => ∃ x S z, vs = [.ref x, .int z] ∧ FewAt K H x S ∧ limOk S.lk S.ln ∧ BigI z ∧ ∀ r, Least S.lk S.ln z r → Q (.int r) H
def spFewItem (K : PySem.W.Frag) : Sp := fun vs H Q _ => ∃ x S c, vs = [.ref x, .int c] ∧ FewAt K H x S ∧ limOk S.lk S.ln ∧ BigI c ∧ Q (.int (greatO S.lk S.ln c)) H
def spFewMod (K : PySem.W.Frag) : Sp := fun vs H Q _ => ∃ x S z, vs = [.ref x, .int z] ∧ FewAt K H x S ∧ limOk S.lk S.ln ∧ BigI z ∧ ∀ r, Least S.lk S.ln z r → Q (.int (greatO S.lk S.ln r - z)) H
def spFewIn (K : PySem.W.Frag) : Sp := fun vs H Q _ => ∃ x S z, vs = [.ref x, .int z] ∧ FewAt K H x S ∧ limOk S.lk S.ln ∧ BigI z ∧ ∀ r, Least S.lk S.ln z r → Q (.bl (decide (greatO S.lk S.ln r = z))) H
def spFewest (K : PySem.W.Frag) : Sp := fun vs H Q _ => ∃ a S z, vs = [.ref a, .int z] ∧ SetAt K H a S ∧ limOk S.lk S.ln ∧ BigI z ∧ ∀ r H', Same H H' → Least S.lk S.ln z r → Q (.int r) H'
def spGreatL (K : PySem.W.Frag) : Sp := fun vs H Q _ => ∃ a S c, vs = [.ref a, .int c] ∧ SetAt K H a S ∧ limOk S.lk S.ln ∧ BigI c ∧ ∀ H', Same H H' → Q (.int (greatO S.lk S.ln c)) H'
theorem intEq (a b : Int) : decide (V.int a = V.int b) = decide (a = b) := by simp
theorem same_three {H : Hp} {x dx : Addr} {o u v : HO} (h1 : H x = none) (h2 : H dx = none) : Same H (upd (upd (upd H dx o) x u) x v) := fun b w hb => by
  rw [upd_ne (ne_of_none hb h1)]
  exact same_two h1 h2 b w hb
set_option hygiene false in
local macro_rules | `(tactic| walk_at "st") => `(tactic| first
  | ((with_reducible refine' w_aug ?h ?_); (case h => exact rfl))
  | (with_reducible first | refine w_bm ?_ | refine w_fldAug ?_ | refine w_seqU ?_ | refine w_enumL ?_)
  | ((with_reducible refine' w_tyL ?h ?_); (case h => walk_at "hp"))
  | ((with_reducible refine' w_enumLAt ?h ?_); (case h => walk_at "hp")))

set_option hygiene false in
local macro_rules | `(tactic| walk_at "na") => `(tactic| exact T.na_few_setting)
set_option hygiene false in
local macro_rules | `(tactic| walk_at "cl") => `(tactic| exact T.cl_few)
set_option hygiene false in
local macro_rules | `(tactic| walk_at "st") => `(tactic| (with_reducible first | refine w_inst ?_ | refine w_instAt ?_))
section
variable {P : Program} {w : World} {K : PySem.W.Frag} {mg : Str → Option Value} {base : Heap}
theorem d_told_fewest (T : Txt K mg) (F : FD K mg "told_fewest" s_told_fewest) (c_need_size : Dn P w K mg base 4 "need_size" s_need_size ["value"] (spNeedSize)) (c_fewest_of : Dn P w K mg base 6 "fewest_of" s_fewest_of ["setting", "size"] (spFewOf K)) : Dn P w K mg base 7 "told_fewest" s_told_fewest ["setting", "n"] (spToldF K) := by
  refine dn_of F (fun _ _ _ _ _ _ us hl => match us, hl with | [_, _], _ => rfl) sc_told_fewest (fun vs H Q E h => ?_) (fun fa cdv A outer s H vs Q E hr h => ?_)
  · obtain ⟨a, S, z, rfl, _⟩ := h
    rfl
  · obtain ⟨a, S, z, rfl, hS, ok, hz, k⟩ := h
    refine ⟨_, PSs.nox (pss_cons (ps_expr (pe_d c_need_size hr (by decide) rfl (pa_cons (pv 1) pa_nil)))
 (pss_one (ps_ret (pe_d c_fewest_of hr (by decide) rfl (pa_cons (pv 0) (pa_cons (pv 1) pa_nil)))))), ?_⟩
    refine w_start (σ := [some (.ref a), some (.int z)]) rfl ?_
    repeat walk_at "st"
    refine ⟨z, rfl, hz.1, hz.2, ?_⟩
    repeat walk_at "st"
    refine ⟨a, S, z, rfl, hS, ok, hz.1, hz.2, fun r hr h1 => ?_⟩
    exact k r hr h1
theorem d_Fewest___init__ (T : Txt K mg) {f : Addr} (F : FA K "__init__" "Fewest.__init__" s_Fewest___init__ [] f) (c_need_setting : Dn P w K mg base 1 "need_setting" s_need_setting ["value", "part"] (spNeedSet K)) : Fr P w K mg base 2 (f) ["self", "setting"] [] (spFewInit K) := by
  refine fr_of0 F (fun _ _ _ _ _ _ us hl => match us, hl with | [_, _], _ => rfl) sc_Fewest___init__ (fun vs H Q E h => ?_) (fun fa cdv A outer s H vs Q E hr h => ?_)
  · obtain ⟨x, dx, a, S, rfl, _⟩ := h
    rfl
  · obtain ⟨x, dx, a, S, rfl, hx, hS, k⟩ := h
    refine ⟨_, PSs.nox (pss_cons (ps_expr (pe_d c_need_setting hr (by decide) rfl (pa_cons (pv 1) (pa_cons pe_str pa_nil))))
 (pss_one (ps_fld (pv 0) (pv 1) rfl))), ?_⟩
    refine w_start (σ := [some (.ref x), some (.ref a)]) rfl ?_
    repeat walk_at "st"
    refine ⟨a, S, _, rfl, hS, ?_⟩
    repeat walk_at "st"
    exact k
theorem d_Fewest___call__ (T : Txt K mg) {f : Addr} (F : FA K "__call__" "Fewest.__call__" s_Fewest___call__ [] f) (c_told_fewest : Dn P w K mg base 7 "told_fewest" s_told_fewest ["setting", "n"] (spToldF K)) : Fr P w K mg base 8 (f) ["self", "n"] [] (spFewCall K) := by
  refine fr_of0 F (fun _ _ _ _ _ _ us hl => match us, hl with | [_, _], _ => rfl) sc_Fewest___call__ (fun vs H Q E h => ?_) (fun fa cdv A outer s H vs Q E hr h => ?_)
  · obtain ⟨x, S, z, rfl, _⟩ := h
    rfl
  · obtain ⟨x, S, z, rfl, ⟨dx, a, hx, hS⟩, ok, hz, k⟩ := h
    refine ⟨_, PSs.nox (pss_one (ps_ret (pe_d c_told_fewest hr (by decide) rfl (pa_cons (pe_fld (pv 0) rfl) (pa_cons (pv 1) pa_nil))))), ?_⟩
    refine w_start (σ := [some (.ref x), some (.int z)]) rfl ?_
    repeat walk_at "st"
    refine ⟨a, S, z, rfl, hS, ok, hz, fun r hr h1 => ?_⟩
    exact k r hr
theorem d_fewest (T : Txt K mg) (F : FD K mg "fewest" s_fewest) (c_Fewest___init__ : Fr P w K mg base 2 (He.ma K (He.ga K "Fewest") "__init__") ["self", "setting"] [] (spFewInit K)) (c_Fewest___call__ : Fr P w K mg base 8 (He.ma K (He.ga K "Fewest") "__call__") ["self", "n"] [] (spFewCall K)) : Dn P w K mg base 10 "fewest" s_fewest ["setting", "n"] (spFewest K) := by
  refine dn_of F (fun _ _ _ _ _ _ us hl => match us, hl with | [_, _], _ => rfl) sc_fewest (fun vs H Q E h => ?_) (fun fa cdv A outer s H vs Q E hr h => ?_)
  · obtain ⟨a, S, z, rfl, _⟩ := h
    rfl
  · obtain ⟨a, S, z, rfl, hS, ok, hz, k⟩ := h
    refine ⟨_, PSs.nox (pss_one (ps_ret (pe_ci c_Fewest___call__ T.ca_few hr (by decide) (pe_mk c_Fewest___init__ T.mk_few T.gc_few hr (by decide) rfl (pa_cons (pv 0) pa_nil)) (pa_cons (pv 1) pa_nil)))), ?_⟩
    refine w_start (σ := [some (.ref a), some (.int z)]) rfl ?_
    repeat walk_at "st"
    refine fun x dx hx hdx ne => ⟨x, dx, a, S, rfl, upd_same, hS.same (same_two hx hdx), rfl, ?_⟩
    repeat walk_at "st"
    refine ⟨⟨dx, _, upd_same⟩, x, S, z, rfl, ⟨dx, a, upd_same, hS.same (same_three hx hdx)⟩, ok, hz, fun r hr => ?_⟩
    exact k r _ (same_three hx hdx) hr
end

end Pt_few
section Pt_level
/-! ### most codes, plainly: levels with so much room -/
/-- so many of l codes stand at the levels from d on, c d the room of a level -/
def fillC (c : Nat → Int) : Nat → Nat → Int → List Int
  | 0, _, _ => []
  | f + 1, d, l => if l ≤ 0 then [] else min (c d) l :: fillC c f (d + 1) (l - min (c d) l)
def fill (c : Nat → Int) (d : Nat) (l : Int) : List Int := fillC c l.toNat d l
def letO : Nat → List Int → Int
  | _, [] => 0
  | d, x :: xs => d * x + letO (d + 1) xs
def sizO : Nat → List Int → List Int
  | _, [] => []
  | d, x :: xs => List.replicate x.toNat (d : Int) ++ sizO (d + 1) xs
def sumF (c : Nat → Int) (d : Nat) (l : Int) : Int := letO d (fill c d l)
theorem fillC_fuel {c : Nat → Int} (hc : ∀ d, 1 ≤ c d) : ∀ (f : Nat) (d : Nat) (l : Int), l.toNat ≤ f → fillC c f d l = fill c d l := by
  have key : ∀ (f g : Nat) (d : Nat) (l : Int), l.toNat ≤ f → l.toNat ≤ g → fillC c f d l = fillC c g d l := by
    intro f
    induction f with
    | zero =>
      intro g d l h _
      cases g with
      | zero => rfl
      | succ g => rw [fillC, fillC, if_pos (by omega)]
    | succ f ih =>
      intro g d l h1 h2
      cases g with
      | zero => rw [fillC, fillC, if_pos (by omega)]
      | succ g =>
        rw [fillC, fillC]
        by_cases hl : l ≤ 0
        · rw [if_pos hl, if_pos hl]
        · have := hc d
          rw [if_neg hl, if_neg hl, ih g (d + 1) (l - min (c d) l) (by omega) (by omega)]
  intro f d l h
  exact key f l.toNat d l h (Nat.le_refl _)
theorem fill_nil {c : Nat → Int} {d : Nat} {l : Int} (h : l ≤ 0) : fill c d l = [] := by
  unfold fill
  rw [show l.toNat = 0 by omega]
  rfl
theorem fill_cons {c : Nat → Int} (hc : ∀ d, 1 ≤ c d) {d : Nat} {l : Int} (h : 0 < l) : fill c d l = min (c d) l :: fill c (d + 1) (l - min (c d) l) := by
  obtain ⟨f, hf⟩ : ∃ f, l.toNat = f + 1 := ⟨l.toNat - 1, by omega⟩
  have := hc d
  unfold fill
  rw [hf, fillC, if_neg (by omega), fillC_fuel hc f (d + 1) _ (by omega)]
  rfl
theorem sumF_nil {c : Nat → Int} {d : Nat} {l : Int} (h : l ≤ 0) : sumF c d l = 0 := by
  unfold sumF
  rw [fill_nil h]
  rfl
theorem sumF_in {c : Nat → Int} (hc : ∀ d, 1 ≤ c d) {d : Nat} {l : Int} (h : 0 ≤ l) (h2 : l ≤ c d) : sumF c d l = d * l := by
  by_cases h0 : l = 0
  · subst h0
    rw [sumF_nil (Int.le_refl _), Int.mul_zero]
  · unfold sumF
    rw [fill_cons hc (by omega), show min (c d) l = l by omega, fill_nil (by omega)]
    show d * l + 0 = _
    omega
theorem sumF_out {c : Nat → Int} (hc : ∀ d, 1 ≤ c d) {d : Nat} {l : Int} (h2 : c d ≤ l) : sumF c d l = d * c d + sumF c (d + 1) (l - c d) := by
  have := hc d
  unfold sumF
  rw [fill_cons hc (by omega), show min (c d) l = c d by omega]
  rfl
theorem sumF_step {c : Nat → Int} (hc : ∀ d, 1 ≤ c d) : ∀ (n : Nat) (d : Nat) (l : Int), l.toNat ≤ n → 0 ≤ l → sumF c d l + d ≤ sumF c d (l + 1)
  | n, d, l, hn, h => by
    by_cases h1 : l < c d
    · rw [sumF_in hc h (by omega), sumF_in hc (by omega) (by omega), Int.mul_add]
      omega
    · have := hc d
      rw [sumF_out hc (d := d) (l := l) (by omega), sumF_out hc (d := d) (l := l + 1) (by omega)]
      cases n with
      | zero => omega
      | succ n =>
        have i := sumF_step hc n (d + 1) (l - c d) (by omega) (by omega)
        rw [show l - c d + 1 = l + 1 - c d by omega] at i
        omega
theorem sumF_grow {c : Nat → Int} (hc : ∀ d, 1 ≤ c d) (d : Nat) (l : Int) (h : 0 ≤ l) : ∀ k : Nat, sumF c d l + d * k ≤ sumF c d (l + k)
  | 0 => by simp
  | k + 1 => by
    have i := sumF_grow hc d l h k
    have s := sumF_step hc (l + k).toNat d (l + k) (Nat.le_refl _) (by omega)
    rw [show l + ((k + 1 : Nat) : Int) = l + k + 1 by omega, show (d : Int) * ((k + 1 : Nat) : Int) = d * k + d by rw [show ((k + 1 : Nat) : Int) = (k : Int) + 1 from rfl, Int.mul_add]; omega]
    omega
theorem sumF_less {c c' : Nat → Int} (hc : ∀ d, 1 ≤ c d) (hc' : ∀ d, 1 ≤ c' d) (hle : ∀ d, c' d ≤ c d) : ∀ (n : Nat) (d : Nat) (l : Int), l.toNat ≤ n → 0 ≤ l → sumF c d l ≤ sumF c' d l
  | n, d, l, hn, h => by
    have := hc' d
    have := hle d
    by_cases h1 : l ≤ c' d
    · rw [sumF_in hc h (by omega), sumF_in hc' h h1]
      exact Int.le_refl _
    · cases n with
      | zero => omega
      | succ n =>
        rw [sumF_out hc' (by omega)]
        by_cases h2 : l ≤ c d
        · have g := sumF_less hc hc' hle n (d + 1) (l - c' d) (by omega) (by omega)
          have z := sumF_grow hc (d + 1) 0 (Int.le_refl _) (l - c' d).toNat
          rw [sumF_nil (Int.le_refl _), show (0 : Int) + ((l - c' d).toNat : Int) = l - c' d by omega, show ((l - c' d).toNat : Int) = l - c' d by omega, Int.zero_add] at z
          rw [sumF_in hc h h2]
          have e : ((d + 1 : Nat) : Int) * (l - c' d) = d * (l - c' d) + (l - c' d) := by rw [show ((d + 1 : Nat) : Int) = (d : Int) + 1 from rfl, Int.add_mul, Int.one_mul]
          have e2 : (d : Int) * (l - c' d) = d * l - d * c' d := Int.mul_sub ..
          omega
        · rw [sumF_out hc (by omega)]
          have g := sumF_less hc hc' hle n (d + 1) (l - c' d) (by omega) (by omega)
          have z := sumF_grow hc (d + 1) (l - c d) (by omega) (c d - c' d).toNat
          rw [show ((c d - c' d).toNat : Int) = c d - c' d by omega, show l - c d + (c d - c' d) = l - c' d by omega] at z
          have e : ((d + 1 : Nat) : Int) * (c d - c' d) = d * (c d - c' d) + (c d - c' d) := by rw [show ((d + 1 : Nat) : Int) = (d : Int) + 1 from rfl, Int.add_mul, Int.one_mul]
          have e2 : (d : Int) * (c d - c' d) = d * c d - d * c' d := Int.mul_sub ..
          omega
theorem fill_pos {c : Nat → Int} (hc : ∀ d, 1 ≤ c d) : ∀ (n : Nat) (d : Nat) (l : Int), l.toNat ≤ n → ∀ x ∈ fill c d l, 1 ≤ x
  | n, d, l, hn => by
    by_cases h : l ≤ 0
    · rw [fill_nil h]
      intro x hx
      cases hx
    · cases n with
      | zero => omega
      | succ n =>
        have := hc d
        rw [fill_cons hc (by omega)]
        intro x hx
        rcases List.mem_cons.mp hx with rfl | hx
        · omega
        · exact fill_pos hc n (d + 1) _ (by omega) x hx
theorem fill_sum {c : Nat → Int} (hc : ∀ d, 1 ≤ c d) : ∀ (n : Nat) (d : Nat) (l : Int), l.toNat ≤ n → 0 ≤ l → (fill c d l).sum = l
  | n, d, l, hn, h0 => by
    by_cases h : l ≤ 0
    · rw [fill_nil h]
      show 0 = l
      omega
    · cases n with
      | zero => omega
      | succ n =>
        have := hc d
        rw [fill_cons hc (by omega), List.sum_cons, fill_sum hc n (d + 1) _ (by omega) (by omega)]
        omega
theorem fill_len {c : Nat → Int} (hc : ∀ d, 1 ≤ c d) : ∀ (n : Nat) (d : Nat) (l : Int), l.toNat ≤ n → ((fill c d l).length : Int) ≤ max l 0
  | n, d, l, hn => by
    by_cases h : l ≤ 0
    · rw [fill_nil h]
      show (0 : Int) ≤ _
      omega
    · cases n with
      | zero => omega
      | succ n =>
        have := hc d
        have i := fill_len hc n (d + 1) (l - min (c d) l) (by omega)
        rw [fill_cons hc (by omega), List.length_cons]
        omega
theorem siz_len : ∀ (d : Nat) (L : List Int), (∀ x ∈ L, 0 ≤ x) → ((sizO d L).length : Int) = L.sum
  | _, [], _ => rfl
  | d, x :: L, h => by
    have h0 := h x List.mem_cons_self
    have i := siz_len (d + 1) L fun y hy => h y (List.mem_cons_of_mem _ hy)
    rw [sizO, List.length_append, List.length_replicate, List.sum_cons]
    omega
theorem rep_sum (n : Nat) (z : Int) : (List.replicate n z).sum = n * z := by
  induction n with
  | zero => simp
  | succ n ih =>
    rw [List.replicate_succ, List.sum_cons, ih, show ((n + 1 : Nat) : Int) = (n : Int) + 1 from rfl, Int.add_mul]
    omega
theorem siz_sum : ∀ (d : Nat) (L : List Int), (∀ x ∈ L, 0 ≤ x) → (sizO d L).sum = letO d L
  | _, [], _ => rfl
  | d, x :: L, h => by
    have h0 := h x List.mem_cons_self
    rw [sizO, letO, List.sum_append, siz_sum (d + 1) L fun y hy => h y (List.mem_cons_of_mem _ hy), rep_sum, Int.toNat_of_nonneg h0, Int.mul_comm]
/-- the lengths of the first l codes -/
def sizF (c : Nat → Int) (d : Nat) (l : Int) : List Int := sizO d (fill c d l)
theorem sizF_sum {c : Nat → Int} (hc : ∀ d, 1 ≤ c d) (d : Nat) (l : Int) : (sizF c d l).sum = sumF c d l :=
  siz_sum d _ fun x hx => by have := fill_pos hc _ d l (Nat.le_refl _) x hx; omega
theorem sizF_len {c : Nat → Int} (hc : ∀ d, 1 ≤ c d) (d : Nat) {l : Int} (h : 0 ≤ l) : ((sizF c d l).length : Int) = l := by
  unfold sizF
  rw [siz_len d _ fun x hx => by have := fill_pos hc _ d l (Nat.le_refl _) x hx; omega, fill_sum hc _ d l (Nat.le_refl _) h]
theorem sizF_cons {c : Nat → Int} (hc : ∀ d, 1 ≤ c d) {d : Nat} {l : Int} (h : 0 < l) : sizF c d l = List.replicate (min (c d) l).toNat (d : Int) ++ sizF c (d + 1) (l - min (c d) l) := by
  unfold sizF
  rw [fill_cons hc h]
  rfl
theorem sizF_nil {c : Nat → Int} {d : Nat} {l : Int} (h : l ≤ 0) : sizF c d l = [] := by
  unfold sizF
  rw [fill_nil h]
  rfl
theorem sizF_take {c : Nat → Int} (hc : ∀ d, 1 ≤ c d) : ∀ (n : Nat) (d : Nat) (l r : Int), l.toNat ≤ n → 0 ≤ r → r ≤ l → (sizF c d l).take r.toNat = sizF c d r
  | n, d, l, r, hn, h0, h1 => by
    by_cases hr : r = 0
    · subst hr
      rw [sizF_nil (Int.le_refl _)]
      rfl
    · cases n with
      | zero => omega
      | succ n =>
        have := hc d
        rw [sizF_cons hc (by omega), sizF_cons hc (l := r) (by omega)]
        by_cases h2 : r ≤ c d
        · rw [List.take_append_of_le_length (by rw [List.length_replicate]; omega), List.take_replicate, show min r.toNat (min (c d) l).toNat = (min (c d) r).toNat by omega, sizF_nil (l := r - min (c d) r) (by omega), List.append_nil]
        · rw [show min (c d) l = c d by omega, show min (c d) r = c d by omega, List.take_append, List.length_replicate, List.take_replicate, show min r.toNat (c d).toNat = (c d).toNat by omega, show r.toNat - (c d).toNat = (r - c d).toNat by omega, sizF_take hc n (d + 1) (l - c d) (r - c d) (by omega) (by omega) (by omega)]
/-! ### the rooms of levels; the least letters of so many codes -/
def big40 : Int := 10000000000000000000000000000000000000000
def capG (a q : Int) (d : Nat) : Int := a * q ^ (d - 1)
def capS (a q : Int) (n : Int) (d : Nat) : Int := if (d : Int) = n then big40 else capG a q d
def capB (q : Int) (s d : Nat) : Int := q ^ d - (if s ≤ d then q ^ (d - s) else 0)
theorem pow_pos' {q : Int} (h : 1 ≤ q) (n : Nat) : 1 ≤ q ^ n := by
  have := Int.pow_pos (n := q) (m := n) (by omega)
  omega
theorem capG_pos {a q : Int} (ha : 1 ≤ a) (hq : 1 ≤ q) (d : Nat) : 1 ≤ capG a q d := by
  have := Int.mul_le_mul ha (pow_pos' hq (d - 1)) (by decide) (by omega)
  unfold capG
  omega
theorem capS_pos {a q n : Int} (ha : 1 ≤ a) (hq : 1 ≤ q) (d : Nat) : 1 ≤ capS a q n d := by
  unfold capS
  split
  · decide
  · exact capG_pos ha hq d
theorem capB_pos {q : Int} (hq : 2 ≤ q) {s : Nat} (hs : 1 ≤ s) (d : Nat) : 1 ≤ capB q s d := by
  unfold capB
  by_cases h : s ≤ d
  · rw [if_pos h]
    have e : q ^ d = q ^ (d - s) * q ^ s := by rw [← Int.pow_add]; congr 1; omega
    have p1 := pow_pos' (q := q) (by omega) (d - s)
    have p2 : 2 ≤ q ^ s := by
      obtain ⟨k, rfl⟩ : ∃ k, s = k + 1 := ⟨s - 1, by omega⟩
      rw [Int.pow_succ]
      have := pow_pos' (q := q) (by omega) k
      have := Int.mul_le_mul this hq (by decide) (by omega)
      omega
    have p3 := Int.mul_le_mul (Int.le_refl (q ^ (d - s))) p2 (by decide) (by omega)
    rw [e]
    omega
  · rw [if_neg h]
    have := pow_pos' (q := q) (by omega) d
    omega
theorem capB_le {q : Int} (hq : 2 ≤ q) (s d : Nat) : capB q s d ≤ capG q q d := by
  unfold capB capG
  have e : q ^ d ≤ q * q ^ (d - 1) := by
    cases d with
    | zero => rw [Int.pow_zero]; omega
    | succ d => rw [Int.pow_succ, Int.mul_comm]; exact Int.le_refl _
  split
  · have := pow_pos' (q := q) (by omega) (d - s)
    omega
  · omega
theorem capB_first {q : Int} {s : Nat} (hs : 1 ≤ s) {d : Nat} (hd : 1 ≤ d) (h : d < s) : capB q s d = capG q q d := by
  unfold capB capG
  rw [if_neg (by omega)]
  obtain ⟨k, rfl⟩ : ∃ k, d = k + 1 := ⟨d - 1, by omega⟩
  rw [Int.pow_succ, Int.mul_comm]
  show q * q ^ k - 0 = q * q ^ k
  omega
def addO : List Int → List Int → List Int
  | [], M => M
  | L, [] => L
  | x :: L, y :: M => (x + y) :: addO L M
theorem add_let : ∀ (d : Nat) (L M : List Int), letO d (addO L M) = letO d L + letO d M
  | d, [], M => by simp [addO, letO]
  | d, x :: L, [] => by simp [addO, letO]
  | d, x :: L, y :: M => by
    rw [addO, letO, letO, letO, add_let (d + 1) L M, Int.mul_add]
    omega
theorem mul_let (k : Int) : ∀ (d : Nat) (L : List Int), letO d (L.map fun x => x * k) = letO d L * k
  | _, [] => by simp [letO]
  | d, x :: L => by
    rw [List.map_cons, letO, letO, mul_let k (d + 1) L, Int.add_mul, Int.mul_assoc]
theorem zero_let : ∀ (n d : Nat) (x : Int), letO d (List.replicate n 0 ++ [x]) = (d + n : Nat) * x
  | 0, d, x => by show d * x + 0 = _; simp
  | n + 1, d, x => by
    rw [List.replicate_succ, List.cons_append, letO, zero_let n (d + 1) x, Int.mul_zero, Int.zero_add, show d + 1 + n = d + (n + 1) by omega]
/-- the first of 1, .., n at which f is least -/
def fminO (f : Nat → Int) : Nat → Nat
  | 0 => 1
  | k + 1 => if k = 0 then 1 else if f (k + 1) < f (fminO f k) then k + 1 else fminO f k
theorem fmin_spec (f : Nat → Int) : ∀ n, 1 ≤ n → 1 ≤ fminO f n ∧ fminO f n ≤ n ∧ (∀ s, 1 ≤ s → s ≤ n → f (fminO f n) ≤ f s) ∧ ∀ s, 1 ≤ s → s < fminO f n → f (fminO f n) < f s
  | 0, h => by omega
  | 1, _ => ⟨Nat.le_refl _, Nat.le_refl _, fun s h1 h2 => by rw [show s = 1 by omega]; exact Int.le_refl _, fun s h1 h2 => by have h2 : s < 1 := h2; omega⟩
  | k + 2, _ => by
    obtain ⟨a, b, c, d⟩ := fmin_spec f (k + 1) (by omega)
    rw [fminO, if_neg (by omega)]
    by_cases h : f (k + 1 + 1) < f (fminO f (k + 1))
    · rw [if_pos h]
      refine ⟨by omega, Nat.le_refl _, fun s h1 h2 => ?_, fun s h1 h2 => ?_⟩
      · by_cases e : s = k + 1 + 1
        · rw [e]; exact Int.le_refl _
        · have := c s h1 (by omega)
          omega
      · have := c s h1 (by omega)
        omega
    · rw [if_neg h]
      refine ⟨a, by omega, fun s h1 h2 => ?_, d⟩
      by_cases e : s = k + 1 + 1
      · rw [e]; omega
      · exact c s h1 (by omega)
section
variable (S : Sg)
def firstO : Int := if S.hid = true then (S.q : Int) * S.q else S.q
def freeC : Nat → Int := capG (firstO S) S.q
/-- a told standing book that never learns a word of s letters -/
def spC (s : Nat) (m : Int) : List Int := addO (fill (capB S.q s) 1 S.ln) (List.replicate (s - 1) 0 ++ [m - S.ln])
def costO (m : Int) (s : Nat) : Int := letO 1 (spC S s m)
def deepO : Nat := (fill (freeC S) 1 S.ln).length + 1
def spF (m : Int) : Nat := fminO (costO S m) (deepO S)
def cntO (m : Int) : List Int := match S.lk with
  | .short => fill (capS (firstO S) S.q S.ln) 1 m
  | .cleared => if S.ln ≤ m then addO ((fill (freeC S) 1 S.ln).map fun x => x * (m / S.ln)) (fill (freeC S) 1 (m % S.ln)) else fill (freeC S) 1 m
  | .standing => if m ≤ S.ln then fill (freeC S) 1 m else if S.hid = true then [m] else spC S (spF S m) m
  | .free => fill (freeC S) 1 m
def lenO (m : Int) : Int := letO 1 (cntO S m)
def leastO (c : Int) : Int := if c = 0 then 0 else lenO S (c - 1) + 1
def looseB : Bool := S.hid && (kEq S.lk .standing && decide (firstO S ≤ S.ln))
end
structure SgOk (S : Sg) : Prop where
  lim : limOk S.lk S.ln
  q1 : 2 ≤ S.q
  q2 : S.q ≤ 26
section
variable {S : Sg}
theorem first_pos (ok : SgOk S) : 2 ≤ firstO S := by
  have := ok.q1
  unfold firstO
  split
  · have := Int.mul_le_mul (a := 2) (c := (S.q : Int)) (b := 2) (d := (S.q : Int)) (by omega) (by omega) (by decide) (by omega)
    omega
  · omega
theorem freeC_pos (ok : SgOk S) (d : Nat) : 1 ≤ freeC S d := capG_pos (by have := first_pos ok; omega) (by have := ok.q1; omega) d
theorem freeC_one : freeC S 1 = firstO S := by show firstO S * 1 = _; omega
theorem cost_eq (s : Nat) (hs : 1 ≤ s) (m : Int) : costO S m s = sumF (capB S.q s) 1 S.ln + s * (m - S.ln) := by
  unfold costO spC
  rw [add_let, zero_let, show 1 + (s - 1) = s by omega]
  rfl
theorem len_cleared (ok : SgOk S) (hk : S.lk = .cleared) {m : Int} (h : 0 ≤ m) : lenO S m = sumF (freeC S) 1 S.ln * (m / S.ln) + sumF (freeC S) 1 (m % S.ln) := by
  have hl := ok.lim
  rw [hk] at hl
  have h1 : 1 ≤ S.ln := hl.1
  unfold lenO cntO
  rw [hk]
  by_cases c : S.ln ≤ m
  · show letO 1 (if S.ln ≤ m then _ else _) = _
    rw [if_pos c, add_let, mul_let]
    rfl
  · show letO 1 (if S.ln ≤ m then _ else _) = _
    rw [if_neg c, Int.ediv_eq_zero_of_lt h (by omega), Int.emod_eq_of_lt h (by omega), Int.mul_zero, Int.zero_add]
    rfl
theorem len_step (ok : SgOk S) {m : Int} (h : 0 ≤ m) (hl : looseB S = true → m + 1 ≤ S.ln) : lenO S m + 1 ≤ lenO S (m + 1) := by
  have fp := freeC_pos ok
  have st := fun l (h : 0 ≤ l) => sumF_step fp l.toNat 1 l (Nat.le_refl _) h
  have lim := ok.lim
  have q1 := ok.q1
  have f1 := first_pos ok
  cases hk : S.lk with
  | free =>
    have := st m h
    unfold lenO cntO
    rw [hk]
    exact this
  | short =>
    have := sumF_step (c := capS (firstO S) S.q S.ln) (capS_pos (by omega) (by omega)) m.toNat 1 m (Nat.le_refl _) h
    unfold lenO cntO
    rw [hk]
    exact this
  | cleared =>
    rw [hk] at lim
    have h1 : 1 ≤ S.ln := lim.1
    rw [len_cleared ok hk h, len_cleared ok hk (by omega)]
    obtain ⟨n, en⟩ : ∃ x, x = S.ln := ⟨_, rfl⟩
    rw [← en] at h1 ⊢
    obtain ⟨a, ea⟩ : ∃ a, a = m / n := ⟨_, rfl⟩
    obtain ⟨r, er⟩ : ∃ r, r = m % n := ⟨_, rfl⟩
    have r0 : 0 ≤ r := by rw [er]; exact Int.emod_nonneg _ (by omega)
    have r1 : r < n := by rw [er]; exact Int.emod_lt_of_pos _ (by omega)
    have ec : r + n * a = m := by rw [er, ea]; exact Int.emod_add_mul_ediv m n
    rw [← ea, ← er]
    have s1 := st r r0
    by_cases c : r + 1 < n
    · obtain ⟨e1, e2⟩ := (Int.ediv_emod_unique (a := m + 1) (b := n) (q := a) (r := r + 1) (by omega)).mpr ⟨by omega, by omega, c⟩
      rw [e1, e2]
      omega
    · have e3 : r + 1 = n := by omega
      obtain ⟨e1, e2⟩ := (Int.ediv_emod_unique (a := m + 1) (b := n) (q := a + 1) (r := 0) (by omega)).mpr ⟨by rw [Int.mul_add]; omega, by omega, by omega⟩
      rw [e1, e2, Int.mul_add, sumF_nil (l := 0) (Int.le_refl _)]
      rw [e3] at s1
      omega
  | standing =>
    rw [hk] at lim
    have n0 : 0 ≤ S.ln := lim.1
    unfold lenO cntO
    rw [hk]
    show letO 1 (if m ≤ S.ln then _ else _) + 1 ≤ letO 1 (if m + 1 ≤ S.ln then _ else _)
    by_cases c1 : m + 1 ≤ S.ln
    · rw [if_pos c1, if_pos (by omega)]
      exact st m h
    · rw [if_neg c1]
      by_cases hh : S.hid = true
      · have nl : ¬ firstO S ≤ S.ln := fun z => c1 (hl (by unfold looseB; rw [hh, hk, decide_eq_true z]; rfl))
        simp only [if_pos hh]
        have e1 : letO 1 [m + 1] = m + 1 := by show ((1 : Nat) : Int) * (m + 1) + 0 = _; omega
        rw [e1]
        by_cases c2 : m ≤ S.ln
        · rw [if_pos c2]
          have := sumF_in fp (d := 1) (l := m) h (by rw [freeC_one]; omega)
          have : letO 1 (fill (freeC S) 1 m) = ((1 : Nat) : Int) * m := this
          omega
        · rw [if_neg c2]
          have e2 : letO 1 [m] = m := by show ((1 : Nat) : Int) * m + 0 = _; omega
          omega
      · have hf : S.hid = false := by cases e : S.hid with | true => exact absurd e hh | false => rfl
        have fq : firstO S = S.q := by unfold firstO; rw [hf]; rfl
        simp only [if_neg hh]
        obtain ⟨s1, s2, s3, s4⟩ := fmin_spec (costO S (m + 1)) (deepO S) (by unfold deepO; omega)
        have e1 : letO 1 (spC S (spF S (m + 1)) (m + 1)) = costO S (m + 1) (spF S (m + 1)) := rfl
        obtain ⟨s, es⟩ : ∃ s, s = spF S (m + 1) := ⟨_, rfl⟩
        have h1 : 1 ≤ s := by rw [es]; exact s1
        have h2 : s ≤ deepO S := by rw [es]; exact s2
        rw [e1, ← es]
        by_cases c2 : m ≤ S.ln
        · rw [if_pos c2, cost_eq s h1]
          have em : m = S.ln := by omega
          have le := sumF_less fp (capB_pos (q := S.q) (by omega) h1) (fun d => by
            have := capB_le (q := (S.q : Int)) (by omega) s d
            unfold freeC
            rw [fq]
            exact this) S.ln.toNat 1 S.ln (Nat.le_refl _) n0
          have e2 : letO 1 (fill (freeC S) 1 m) = sumF (freeC S) 1 S.ln := by rw [em]; rfl
          rw [e2, show m + 1 - S.ln = 1 by omega]
          omega
        · rw [if_neg c2]
          obtain ⟨t1, t2, t3, t4⟩ := fmin_spec (costO S m) (deepO S) (by unfold deepO; omega)
          have e2 : letO 1 (spC S (spF S m) m) = costO S m (spF S m) := rfl
          have le := t3 s h1 h2
          have e3 : costO S (m + 1) s = costO S m s + s := by
            rw [cost_eq s h1, cost_eq s h1, show m + 1 - S.ln = (m - S.ln) + 1 by omega, Int.mul_add]
            omega
          rw [e2, e3]
          have le : costO S m (spF S m) ≤ costO S m s := le
          omega
theorem cnt_zero (ok : SgOk S) : lenO S 0 = 0 := by
  have lim := ok.lim
  unfold lenO cntO
  cases hk : S.lk with
  | free => rw [fill_nil (Int.le_refl _)]; rfl
  | short => rw [fill_nil (Int.le_refl _)]; rfl
  | cleared =>
    rw [hk] at lim
    have h1 : 1 ≤ S.ln := lim.1
    show letO 1 (if S.ln ≤ 0 then _ else _) = 0
    rw [if_neg (by omega), fill_nil (Int.le_refl _)]
    rfl
  | standing =>
    rw [hk] at lim
    have n0 : 0 ≤ S.ln := lim.1
    show letO 1 (if 0 ≤ S.ln then _ else _) = 0
    rw [if_pos n0, fill_nil (Int.le_refl _)]
    rfl
theorem least_zero : leastO S 0 = 0 := if_pos rfl
theorem least_step (ok : SgOk S) {c : Int} (h : 0 ≤ c) (hl : looseB S = true → c ≤ S.ln) : leastO S c + 1 ≤ leastO S (c + 1) := by
  unfold leastO
  rw [if_neg (show ¬ c + 1 = 0 by omega)]
  by_cases e : c = 0
  · subst e
    rw [if_pos rfl, show (0 : Int) + 1 - 1 = 0 by omega, cnt_zero ok]
    decide
  · rw [if_neg e]
    have := len_step ok (m := c - 1) (by omega) fun z => by have := hl z; omega
    rw [show c - 1 + 1 = c by omega] at this
    rw [show c + 1 - 1 = c by omega]
    omega
theorem least_grow (ok : SgOk S) : ∀ (d : Nat) (a : Int), 0 ≤ a → (looseB S = true → a + d ≤ S.ln + 1) → leastO S a + d ≤ leastO S (a + d)
  | 0, a, _, _ => by simp
  | d + 1, a, h, hl => by
    have e := least_step ok (c := a + d) (by omega) fun z => by have := hl z; omega
    have i := least_grow ok d a h fun z => by have := hl z; omega
    rw [show a + ((d + 1 : Nat) : Int) = a + d + 1 by omega]
    omega
theorem least_mono (ok : SgOk S) {a b : Int} (h : 0 ≤ a) (hab : a ≤ b) (hl : looseB S = true → b ≤ S.ln + 1) : leastO S a + (b - a) ≤ leastO S b := by
  have i := least_grow ok (b - a).toNat a h fun z => by have := hl z; omega
  rw [show ((b - a).toNat : Int) = b - a by omega, show a + (b - a) = b by omega] at i
  exact i
theorem least_ge (ok : SgOk S) {c : Int} (h : 0 ≤ c) (hl : looseB S = true → c ≤ S.ln + 1) : c ≤ leastO S c := by
  have i := least_mono ok (a := 0) (by decide) h hl
  rw [least_zero] at i
  omega
/-- the greatest number of codes of z letters -/
def MostR (S : Sg) (z r : Int) : Prop := 0 ≤ r ∧ (looseB S = true → r ≤ S.ln + 1) ∧ leastO S r ≤ z ∧ ∀ c, r < c → (looseB S = true → c ≤ S.ln + 1) → z < leastO S c
theorem MostR.one {z r r' : Int} (a : MostR S z r) (b : MostR S z r') : r = r' := by
  obtain ⟨a1, a2, a3, a4⟩ := a
  obtain ⟨b1, b2, b3, b4⟩ := b
  rcases Int.lt_trichotomy r r' with h | h | h
  · have := a4 r' h b2
    omega
  · exact h
  · have := b4 r h a2
    omega
end

end Pt_level
section Pt_most
/-! ### levels.py: levels filled -/
def spFirst (K : PySem.W.Frag) : Sp := fun vs H Q _ => ∃ a S, vs = [.ref a] ∧ SetAt K H a S ∧ Q (.int (firstO S)) H
def deepV : Option Int → V
  | none => .non
  | some n => .int n
def capO (S : Sg) : Option Int → Nat → Int
  | none => freeC S
  | some n => capS (firstO S) S.q n
def Big31 (z : Int) : Prop := z ≤ 10000000000000000000000000000000
def NewI (H : Hp) (Q : VK) (L : List Int) : Prop := ∀ p H', H p = none → Same H H' → H' p = some (.lst (L.map V.int)) → Q (.ref p) H'
def spFilled (K : PySem.W.Frag) : Sp := fun vs H Q _ => ∃ a S m dp, vs = [.ref a, .int m, deepV dp] ∧ SetAt K H a S ∧ Big31 m ∧ ((fill (capO S dp) 1 m).length ≤ 5000) ∧ NewI H Q (fill (capO S dp) 1 m)
def spFillBut : Sp := fun vs H Q _ => ∃ (q : Nat) (m : Int) (s : Nat), vs = [.int q, .int m, .int s] ∧ 2 ≤ q ∧ q ≤ 26 ∧ 1 ≤ s ∧ m ≤ 5000 ∧ NewI H Q (fill (capB q s) 1 m)
def spLetIn : Sp := fun vs H Q _ => ∃ a L, vs = [.ref a] ∧ (H a = some (.lst (L.map V.int)) ∨ H a = some (.tup (L.map V.int))) ∧ L.length ≤ 10000 ∧ ∀ H', Same H H' → Q (.int (letO 1 L)) H'
def spAdded : Sp := fun vs H Q _ => ∃ a b L M, vs = [.ref a, .ref b] ∧ H a = some (.lst (L.map V.int)) ∧ H b = some (.lst (M.map V.int)) ∧ L.length ≤ 10000 ∧ M.length ≤ 10000 ∧ NewI H Q (addO L M)
def spSparedC (K : PySem.W.Frag) : Sp := fun vs H Q _ => ∃ a S m s, vs = [.ref a, .int m, .int (s : Nat)] ∧ SetAt K H a S ∧ SgOk S ∧ S.lk = .standing ∧ 1 ≤ s ∧ s ≤ 5000 ∧ NewI H Q (spC S s m)
local macro_rules | `(tactic| walk_at "cond") => `(tactic| first | (refine small_mul ?_ ?_ <;> omega) | (refine small_mul' ?_ ?_ <;> omega) | (refine small_div ?_ ?_ <;> omega))
theorem fill_next {c : Nat → Int} (hc : ∀ d, 1 ≤ c d) {F : List Int} {l m : Int} (h : F ++ fill c (F.length + 1) l = fill c 1 m) (hl : 0 < l) : F ++ [min (c (F.length + 1)) l] ++ fill c ((F ++ [min (c (F.length + 1)) l]).length + 1) (l - min (c (F.length + 1)) l) = fill c 1 m := by
  rw [← h, fill_cons hc hl, List.length_append, List.append_assoc]
  rfl
theorem cap_next (a q : Int) (F : List Int) (x : Int) : capG a q ((F ++ [x]).length + 1) = capG a q (F.length + 1) * q := by
  unfold capG
  rw [List.length_append, List.length_singleton, show F.length + 1 + 1 - 1 = F.length + 1 by omega, show F.length + 1 - 1 = F.length by omega, Int.pow_succ, Int.mul_assoc]
theorem cap_start (a q : Int) : capG a q (([] : List Int).length + 1) = a := by
  unfold capG
  show a * q ^ 0 = a
  rw [Int.pow_zero, Int.mul_one]
theorem min_if (i j : Int) : (if j < i then j else i) = min i j := by split <;> omega
theorem intD (i : Int) (dp : Option Int) : decide (V.int i = deepV dp) = decide (some i = dp) := by
  cases dp with
  | none => exact decide_eq_decide.mpr ⟨fun h => (by cases h), fun h => (by cases h)⟩
  | some n => exact decide_eq_decide.mpr ⟨fun h => (by injection h with h; rw [h]), fun h => (by injection h with h; rw [h]; rfl)⟩
/-- [e for i, x in enumerate(a list of ints)] -/
theorem lc_enumI {K : PySem.W.Frag} {σ : L2.St} {Q : VK} {H H1 : Hp} {ta : TA} {te : TE} {vs : List Nat} {i1 j1 : Nat} {a : Addr} {L : List Int} (g : Nat → Int → Int) (hs : ∀ R : List V → Hp → Prop, R [.ref a] H1 → ta σ H R) (ha : H1 a = some (.lst (L.map V.int))) (hl : L.length ≤ sizeLine)
    (hel : ∀ (i : Nat) (x : Int), x ∈ L → i < L.length → ∀ H', Same H1 H' → ∀ R : VK, (∀ H'', Same H' H'' → R (.int (g i x)) H'') → te (((wipe σ vs).set i1 (some (.int (i : Nat)))).set j1 (some (.int x))) H' R)
    (q : ∀ D H', H1 D = none → Same H1 H' → H' D = some (.lst ((L.zipIdx.map fun p => g p.2 p.1).map V.int)) → Q (.ref D) H') (hw : ∀ x y, wipe (((wipe σ vs).set i1 (some x)).set j1 (some y)) vs = wipe σ vs := by intro _ _; rfl) :
    tLc (iEnum K ta) (gTup K 2 (gCons (gName i1) (gCons (gName j1) gNil))) tYes te vs σ H Q := by
  have eq : ((L.map V.int).zipIdx.map fun p : V × Nat => (V.int ((p.2 : Nat) : Int), p.1)) = L.zipIdx.map fun p => (V.int ((p.2 : Nat) : Int), V.int p.1) := by
    rw [List.zipIdx_map, List.map_map]
    rfl
  refine hs _ ⟨a, L.map V.int, rfl, SqL.of ha, lcP_map (fun x y => match x, y with | .int i, .int z => .int (g i.toNat z) | _, _ => .non) (fun x y => ((wipe σ vs).set i1 (some x)).set j1 (some y)) (pairIt_enum (SqL.of ha)) (by rw [List.length_map, List.length_zipIdx, List.length_map]; exact hl) (fun T x y H' R hT hR => ⟨T, [x, y], rfl, SqT.of hT, rfl, _, _, rfl, _, _, rfl, rfl, hR⟩) (fun p hp H' e R hR => ?_) (fun D H' h1 h2 h3 => q D H' h1 h2 ?_) hw⟩
  · rw [eq] at hp
    obtain ⟨⟨z, n⟩, hz, rfl⟩ := List.mem_map.mp hp
    obtain ⟨b1, b2, b3⟩ := List.mem_zipIdx hz
    exact hel n z (by rw [b3]; exact List.getElem_mem _) (by omega) H' e R hR
  · rw [h3, eq, List.map_map, List.map_map]
    rfl
theorem pairIt_itw {S : Hp → Prop} {H1 : Hp} {xs : List V} (h : ∀ H', Same H1 H' → S H') : PairIt (Itw S xs) H1 (xs.zipIdx.map fun p => (.int ((p.2 : Nat) : Int), p.1)) where
  go := fun H' e i hi => by
    rw [List.length_map, List.length_zipIdx] at hi
    exact ⟨h H' e, hi⟩
  stop := fun H' e i hi => by
    rw [List.length_map, List.length_zipIdx] at hi
    exact ⟨h H' e, hi⟩
  yld := fun H' e i x H'' hi y => by
    obtain ⟨T, v, rfl, hT, hx, rfl⟩ := y
    refine ⟨T, (.int ((i : Nat) : Int), v), rfl, hT, ?_, rfl⟩
    rw [List.getElem?_map, List.getElem?_zipIdx, hx]
    simp
theorem lc_enumI2 {K : PySem.W.Frag} {σ : L2.St} {Q : VK} {H H1 : Hp} {ta : TA} {te : TE} {vs : List Nat} {i1 j1 : Nat} {a : Addr} {L : List Int} (g : Nat → Int → Int) (hs : ∀ R : List V → Hp → Prop, R [.ref a] H1 → ta σ H R) (ha : H1 a = some (.lst (L.map V.int)) ∨ H1 a = some (.tup (L.map V.int))) (hl : L.length ≤ sizeLine)
    (hel : ∀ (i : Nat) (x : Int), x ∈ L → i < L.length → ∀ H', Same H1 H' → ∀ R : VK, (∀ H'', Same H' H'' → R (.int (g i x)) H'') → te (((wipe σ vs).set i1 (some (.int (i : Nat)))).set j1 (some (.int x))) H' R)
    (q : ∀ D H', H1 D = none → Same H1 H' → H' D = some (.lst ((L.zipIdx.map fun p => g p.2 p.1).map V.int)) → Q (.ref D) H') (hw : ∀ x y, wipe (((wipe σ vs).set i1 (some x)).set j1 (some y)) vs = wipe σ vs := by intro _ _; rfl) :
    tLc (iTwo (iEnum K ta) (iEnumT K ta)) (gTup K 2 (gCons (gName i1) (gCons (gName j1) gNil))) tYes te vs σ H Q := by
  have eq : ((L.map V.int).zipIdx.map fun p : V × Nat => (V.int ((p.2 : Nat) : Int), p.1)) = L.zipIdx.map fun p => (V.int ((p.2 : Nat) : Int), V.int p.1) := by
    rw [List.zipIdx_map, List.map_map]
    rfl
  rcases ha with ha | ha
  · refine w_lc (.inl (hs _ ⟨a, L.map V.int, rfl, SqL.of ha, lcP_map (fun x y => match x, y with | .int i, .int z => .int (g i.toNat z) | _, _ => .non) (fun x y => ((wipe σ vs).set i1 (some x)).set j1 (some y)) (pairIt_enum (SqL.of ha)) (by rw [List.length_map, List.length_zipIdx, List.length_map]; exact hl) (fun T x y H' R hT hR => ⟨T, [x, y], rfl, SqT.of hT, rfl, _, _, rfl, _, _, rfl, rfl, hR⟩) (fun p hp H' e R hR => ?_) (fun D H' h1 h2 h3 => q D H' h1 h2 ?_) hw⟩))
    · rw [eq] at hp
      obtain ⟨⟨z, n⟩, hz, rfl⟩ := List.mem_map.mp hp
      obtain ⟨b1, b2, b3⟩ := List.mem_zipIdx hz
      exact hel n z (by rw [b3]; exact List.getElem_mem _) (by omega) H' e R hR
    · rw [h3, eq, List.map_map, List.map_map]
      rfl
  · refine w_lc (.inr (hs _ ⟨a, L.map V.int, rfl, SqT.of ha, lcP_map (fun x y => match x, y with | .int i, .int z => .int (g i.toNat z) | _, _ => .non) (fun x y => ((wipe σ vs).set i1 (some x)).set j1 (some y)) (pairIt_itw (fun H' e => SqT.of (e _ _ ha))) (by rw [List.length_map, List.length_zipIdx, List.length_map]; exact hl) (fun T x y H' R hT hR => ⟨T, [x, y], rfl, SqT.of hT, rfl, _, _, rfl, _, _, rfl, rfl, hR⟩) (fun p hp H' e R hR => ?_) (fun D H' h1 h2 h3 => q D H' h1 h2 ?_) hw⟩))
    · rw [eq] at hp
      obtain ⟨⟨z, n⟩, hz, rfl⟩ := List.mem_map.mp hp
      obtain ⟨b1, b2, b3⟩ := List.mem_zipIdx hz
      exact hel n z (by rw [b3]; exact List.getElem_mem _) (by omega) H' e R hR
    · rw [h3, eq, List.map_map, List.map_map]
      rfl
theorem zipW_eq (g : Int → Int → Int) : ∀ L M : List Int, List.zipWith g L M = (L.zip M).map fun p => g p.1 p.2
  | [], _ => rfl
  | _ :: _, [] => rfl
  | x :: L, y :: M => by rw [List.zipWith_cons_cons, List.zip_cons_cons, List.map_cons, zipW_eq g L M]
theorem zip_zero (g : Int → Int → Int) (hg : ∀ x y, g x y = x + y) : ∀ (L M : List Int), List.zipWith g (L ++ List.replicate (max L.length M.length - L.length) 0) (M ++ List.replicate (max L.length M.length - M.length) 0) = addO L M
  | [], [] => rfl
  | [], y :: M => by
    have i := zip_zero g hg [] M
    rw [show max ([] : List Int).length (y :: M).length - ([] : List Int).length = (max ([] : List Int).length M.length - ([] : List Int).length) + 1 by simp, show max ([] : List Int).length (y :: M).length - (y :: M).length = max ([] : List Int).length M.length - M.length by simp, List.replicate_succ, List.nil_append, List.cons_append, List.zipWith_cons_cons, hg, Int.zero_add]
    have e : addO [] M = M := by cases M <;> rfl
    rw [List.nil_append, e] at i
    rw [i]
    rfl
  | x :: L, [] => by
    have i := zip_zero g hg L []
    rw [show max (x :: L).length ([] : List Int).length - ([] : List Int).length = (max L.length ([] : List Int).length - ([] : List Int).length) + 1 by simp, show max (x :: L).length ([] : List Int).length - (x :: L).length = max L.length ([] : List Int).length - L.length by simp, List.replicate_succ, List.nil_append, List.cons_append, List.zipWith_cons_cons, hg, Int.add_zero]
    have e : addO L [] = L := by cases L <;> rfl
    rw [List.nil_append, e] at i
    rw [i]
    rfl
  | x :: L, y :: M => by
    have i := zip_zero g hg L M
    rw [show max (x :: L).length (y :: M).length - (x :: L).length = max L.length M.length - L.length by simp only [List.length_cons]; omega, show max (x :: L).length (y :: M).length - (y :: M).length = max L.length M.length - M.length by simp only [List.length_cons]; omega, List.cons_append, List.cons_append, List.zipWith_cons_cons, i, hg]
    rfl
theorem lc_zipI {K : PySem.W.Frag} {σ : L2.St} {Q : VK} {H H1 : Hp} {ta : TA} {te : TE} {vs : List Nat} {i1 j1 : Nat} {a b : Addr} {L M : List Int} (g : Int → Int → Int) (hs : ∀ R : List V → Hp → Prop, R [.ref a, .ref b] H1 → ta σ H R) (ha : H1 a = some (.lst (L.map V.int))) (hb : H1 b = some (.lst (M.map V.int))) (hl : L.length ≤ sizeLine)
    (hel : ∀ (x y : Int), ∀ H', Same H1 H' → ∀ R : VK, (∀ H'', Same H' H'' → R (.int (g x y)) H'') → te (((wipe σ vs).set i1 (some (.int x))).set j1 (some (.int y))) H' R)
    (q : ∀ D H', H1 D = none → Same H1 H' → H' D = some (.lst ((List.zipWith g L M).map V.int)) → Q (.ref D) H') (hw : ∀ x y, wipe (((wipe σ vs).set i1 (some x)).set j1 (some y)) vs = wipe σ vs := by intro _ _; rfl) :
    tLc (RZ.iZipA K ta) (gTup K 2 (gCons (gName i1) (gCons (gName j1) gNil))) tYes te vs σ H Q := by
  refine hs _ ⟨a, b, _, _, rfl, .inl ⟨SqL.of ha, SqL.of hb, lcP_map (fun x y => match x, y with | .int i, .int z => .int (g i z) | _, _ => .non) (fun x y => ((wipe σ vs).set i1 (some x)).set j1 (some y)) (pairIt_zip (SqL.of ha) (SqL.of hb)) (by rw [List.length_zip, List.length_map, List.length_map]; omega) (fun T x y H' R hT hR => ⟨T, [x, y], rfl, SqT.of hT, rfl, _, _, rfl, _, _, rfl, rfl, hR⟩) (fun p hp H' e R hR => ?_) (fun D H' h1 h2 h3 => q D H' h1 h2 ?_) hw⟩⟩
  · rw [List.zip_map] at hp
    obtain ⟨⟨x, y⟩, hz, rfl⟩ := List.mem_map.mp hp
    exact hel x y H' e R hR
  · rw [h3, List.zip_map, List.map_map, zipW_eq, List.map_map]
    rfl
theorem enum_let : ∀ (L : List Int) (k : Nat), ((L.zipIdx k).map fun p => ((p.2 : Int) + 1) * p.1).sum = letO (k + 1) L
  | [], _ => rfl
  | x :: L, k => by
    rw [List.zipIdx_cons, List.map_cons, List.sum_cons, enum_let L (k + 1)]
    rfl
theorem same_put {H H' : Hp} {p : Addr} {o : HO} (hp : H p = none) (e : Same H H') : Same H (upd H' p o) := fun b u hb => by
  rw [upd_ne (ne_of_none hb hp)]
  exact e b u hb
section
variable {P : Program} {w : World} {K : PySem.W.Frag} {mg : Str → Option Value} {base : Heap}
theorem d_first_level (T : Txt K mg) (F : FD K mg "first_level" s_first_level) : Dn P w K mg base 1 "first_level" s_first_level ["setting"] (spFirst K) := by
  refine dn_of F (fun _ _ _ _ _ _ us hl => match us, hl with | [_], _ => rfl) sc_first_level (fun vs H Q E h => ?_) (fun fa cdv A outer s H vs Q E hr h => ?_)
  · obtain ⟨a, S, rfl, _⟩ := h
    rfl
  · obtain ⟨a, S, rfl, ⟨dx, l, ha, hl, q1, q2⟩, k⟩ := h
    refine ⟨_, PSs.nox (pss_one (ps_ret (pe_ifExp (pt_val (pe_callB call_isi (by rfl) T.n_isinstance (by decide +kernel) (pa_cons (pv 0) (pa_cons (pe_gc (x := "Hidden") rfl (T.gc_Hidden)) pa_nil))) (by intro _; rfl)) (pe_op op_mulA (pe_fld (pv 0) rfl) (pe_fld (pv 0) rfl)) (pe_fld (pv 0) rfl)))), ?_⟩
    refine w_start (σ := [some (.ref a)]) rfl ?_
    repeat walk_at "st"
    refine w_isaB ha (T.cl_set _) (T.isa_hid _) ?_
    have hf : firstO S = if S.hid = true then (S.q : Int) * S.q else S.q := rfl
    rw [hf] at k
    cases eh : S.hid with
    | true =>
      rw [eh, if_pos rfl] at k
      repeat walk_at "st"
      exact k
    | false =>
      rw [eh, if_neg (by decide)] at k
      repeat walk_at "st"
      exact k
theorem len_filled : ∀ vs H Q E, spFilled K vs H Q E → vs.length = 3 := by
  rintro vs H Q E ⟨a, S, m, dp, rfl, _⟩
  rfl
theorem b_filled (T : Txt K mg) (c_first_level : Dn P w K mg base 1 "first_level" s_first_level ["setting"] (spFirst K)) : BodyOk P w K mg base 1 "filled" s_filled ["setting", "many", "deepest", "size", "left", "found", "taken"] (spFilled K) := by
  refine fun fa cdv A outer s H vs Q E hr h => ?_
  obtain ⟨a, S, m, dp, rfl, hS, hm, hlen, k⟩ := h
  have hm : m ≤ 10000000000000000000000000000000 := hm
  have sz := sizeLine_eq
  refine ⟨_, PSs.nox (pss_cons (ps_par (i := 3) (j := 4) (by rfl) sc_filled.nd rfl rfl (by decide) rfl rfl (pa_cons (pe_d c_first_level hr (by decide) rfl (pa_cons (pv 0) pa_nil)) (pa_cons (pv 1) pa_nil)) (by rfl))
 (pss_cons (ps_set (i := 5) sc_filled.nd rfl (Or.inl rfl) (pe_lst pa_nil))
 (pss_cons (ps_while PassesOwn.never (pt_cmpR op_gt (pv 4) pe_int (nomark _))
 (pss_cons (ps_set (i := 6) sc_filled.nd rfl (Or.inl rfl) (pe_ifExp (pt_cmpR op_eq (pe_op op_add (pe_callB cl_lenQ (by rfl) T.n_len (by decide +kernel) (pa_cons (pv 5) pa_nil)) pe_int) (pv 2) (nomark _)) (pv 4) (pe_callB (call_min2 rfl) (by rfl) T.n_min (by decide +kernel) (pa_cons (pe_callTy cl_int1 (by rfl) T.n_int (by decide +kernel) (pa_cons (pv 3) pa_nil)) (pa_cons (pe_callTy cl_int1 (by rfl) T.n_int (by decide +kernel) (pa_cons (pv 4) pa_nil)) pa_nil)))))
 (pss_cons (ps_expr (pe_bm PySem.F.plainAttrs_list PySem.F.slot_list_append PySem.F.type_list_append mt_append (pv 5) (pa_cons (pv 6) pa_nil)))
 (pss_cons (ps_aug (i := 4) sc_filled.nd rfl (Or.inl rfl) (pv 6) iop_sub)
 (pss_one (ps_set (i := 3) sc_filled.nd rfl (Or.inl rfl) (pe_op op_mulA (pv 3) (pe_fld (pv 0) rfl))))))))
 (pss_one (ps_ret (pv 5)))))), ?_⟩
  refine w_start (σ := [some (.ref a), some (.int m), some (deepV dp), none, none, none, none]) rfl ?_
  repeat walk_at "st"
  refine ⟨a, S, rfl, hS, ?_⟩
  obtain ⟨dx, l, ha, hl, q1, q2⟩ := hS
  have qi : 2 ≤ (S.q : Int) ∧ (S.q : Int) ≤ 26 := by omega
  have f2 : 2 ≤ firstO S := by
    unfold firstO
    split
    · have := Int.mul_le_mul (a := 2) (c := (S.q : Int)) (b := 2) (d := (S.q : Int)) (by omega) (by omega) (by decide) (by omega)
      omega
    · omega
  have hc : ∀ d, 1 ≤ capO S dp d := fun d => by
    cases dp with
    | none => exact capG_pos (by omega) (by omega) d
    | some n => exact capS_pos (by omega) (by omega) d
  repeat walk_at "st"
  refine ⟨by walk_at "len", fun fo hfo => ?_⟩
  repeat walk_at "st"
  with_reducible refine w_seq ?_
  refine ⟨fun t σ' H' => ∃ (F : List Int) (lf : Int) (o : Option V), σ' = [some (.ref a), some (.int m), some (deepV dp), some (.int (capG (firstO S) S.q (F.length + 1))), some (.int lf), some (.ref fo), o] ∧ t = lf.toNat ∧ Same H H' ∧ H' fo = some (.lst (F.map V.int)) ∧ F ++ fill (capO S dp) (F.length + 1) lf = fill (capO S dp) 1 m ∧ lf ≤ m,
    ⟨_, [], m, none, by rw [cap_start], rfl, same_new hfo (Same.refl H), upd_same, rfl, Int.le_refl _⟩, ?_⟩
  rintro t σ' H' ⟨F, lf, o, rfl, rfl, e, hF, hinv, hle⟩
  obtain ⟨cz, hcz⟩ : ∃ x, x = capG (firstO S) S.q (F.length + 1) := ⟨_, rfl⟩
  have fl : F.length ≤ 5000 := by
    have := congrArg List.length hinv
    rw [List.length_append] at this
    omega
  rw [← hcz]
  repeat walk_at "st"
  refine w_ite (fun h1 => ?_) (fun h1 => ?_)
  · have nx := fill_next hc hinv (by omega)
    refine ⟨fun σ2 H2 => ∃ tk o, σ2 = [some (.ref a), some (.int m), some (deepV dp), some (.int (cz * S.q)), some (.int (lf - tk)), some (.ref fo), o] ∧ Same H H2 ∧ H2 fo = some (.lst ((F ++ [tk]).map V.int)) ∧ tk = min (capO S dp (F.length + 1)) lf, ?_, ?_⟩
    · rintro σ2 H2 ⟨tk, o2, rfl, e2, hF2, htk⟩
      have := hc (F.length + 1)
      refine ⟨(lf - tk).toNat, by omega, F ++ [tk], lf - tk, o2, ?_, rfl, e2, hF2, ?_, by omega⟩
      · rw [cap_next, ← hcz]
      · rw [htk]
        exact nx
    · have fin : ∀ tk : Int, tk = min (capO S dp (F.length + 1)) lf → ∀ o, ∃ tk' o', [some (.ref a), some (.int m), some (deepV dp), some (.int (cz * S.q)), some (.int (lf - tk)), some (.ref fo), o] = [some (.ref a), some (.int m), some (deepV dp), some (.int (cz * S.q)), some (.int (lf - tk')), some (.ref fo), o'] ∧ Same H (upd H' fo (.lst ((F ++ [tk]).map V.int))) ∧ (upd H' fo (.lst ((F ++ [tk]).map V.int))) fo = some (.lst ((F ++ [tk']).map V.int)) ∧ tk' = min (capO S dp (F.length + 1)) lf :=
        fun tk h o => ⟨tk, o, rfl, same_put hfo e, upd_same, h⟩
      have ha2 := e _ _ ha
      have nfa := ne_of_none ha hfo
      repeat walk_at "st"
      refine ⟨by cases dp <;> rfl, ?_⟩
      rw [intD, List.length_map]
      repeat walk_at "st"
      refine w_ite (fun h2 => ?_) (fun h2 => ?_)
      · repeat walk_at "st"
        refine w_appI hF (by omega) ?_
        repeat walk_at "st"
        refine fin _ ?_ _
        cases dp with
        | none => cases h2
        | some n =>
          injection h2 with h2
          have e3 : capO S (some n) (F.length + 1) = big40 := by
            show capS (firstO S) S.q n (F.length + 1) = big40
            unfold capS
            rw [if_pos (by omega)]
          rw [e3]
          have : big40 = 10000000000000000000000000000000000000000 := rfl
          omega
      · repeat walk_at "st"
        refine ⟨_, _, rfl, ?_⟩
        repeat walk_at "st"
        refine w_appI hF (by omega) ?_
        repeat walk_at "st"
        refine fin _ ?_ _
        have e3 : capO S dp (F.length + 1) = cz := by
          rw [hcz]
          cases dp with
          | none => rfl
          | some n =>
            show capS (firstO S) S.q n (F.length + 1) = _
            unfold capS
            rw [if_neg fun z => h2 (by rw [← z]; rfl)]
        rw [e3, min_if]
  · repeat walk_at "st"
    have z : fill (capO S dp) (F.length + 1) lf = [] := fill_nil (by omega)
    rw [z, List.append_nil] at hinv
    rw [hinv] at hF
    exact k fo H' hfo e hF
theorem filled2 (T : Txt K mg) {f : Addr} (F : FA K "filled" "filled" s_filled [.non] f) (c_first_level : Dn P w K mg base 1 "first_level" s_first_level ["setting"] (spFirst K)) : Fr P w K mg base (1 + 1) f ["setting", "many", "deepest"] [.non] (spFilled K) :=
  fr_ofD 2 0 F (by simp) rfl (fun _ _ _ _ _ _ _ us its h1 h2 => match us, its, h1, h2 with | [_, _], [_], _, _ => ⟨_, rfl, rfl⟩) sc_filled len_filled (b_filled T c_first_level)
theorem filled3 (T : Txt K mg) {f : Addr} (F : FA K "filled" "filled" s_filled [.non] f) (c_first_level : Dn P w K mg base 1 "first_level" s_first_level ["setting"] (spFirst K)) : Fr P w K mg base (1 + 1) f ["setting", "many", "deepest"] [] (spFilled K) :=
  fr_ofD 3 1 F (by simp) rfl (fun _ _ _ _ _ _ _ us its h1 h2 => match us, its, h1, h2 with | [_, _, _], [_], _, _ => ⟨_, rfl, rfl⟩) sc_filled len_filled (b_filled T c_first_level)
theorem d_letters_in (T : Txt K mg) (F : FD K mg "letters_in" s_letters_in) : Dn P w K mg base 1 "letters_in" s_letters_in ["counts"] (spLetIn) := by
  refine dn_of F (fun _ _ _ _ _ _ us hl => match us, hl with | [_], _ => rfl) sc_letters_in (fun vs H Q E h => ?_) (fun fa cdv A outer s H vs Q E hr h => ?_)
  · obtain ⟨a, L, rfl, _⟩ := h
    rfl
  · obtain ⟨a, L, rfl, ha, hl, k⟩ := h
    have sz := sizeLine_eq
    refine ⟨_, PSs.nox (pss_one (ps_ret (pe_callB (cr_sum rfl) (by rfl) T.n_sum (by decide +kernel) (pa_cons (pe_lc (own := [("at", 1), ("number", 2)]) (tt := tYes) (g := gTup K 2 (gCons (gName 1) (gCons (gName 2) (gNil)))) rfl sc_letters_in.nd (pi_two (pi_enum (by rfl) T.n_enumerate (pa_cons (pv 0) pa_nil)) (pi_enumT (by rfl) T.n_enumerate (pa_cons (pv 0) pa_nil))) (blkOk_by (N := ["counts", "at", "number"]) (sc := defScope s_letters_in) (by decide +kernel)) (fun _ _ _ _ _ => (pg_tup rfl (pgs_cons (pg_name (i := 1) sc_letters_in.nd rfl (Or.inl rfl)) (pgs_cons (pg_name (i := 2) sc_letters_in.nd rfl (Or.inl rfl)) pgs_nil)))) (fun _ _ _ _ _ => pts_nil) (fun _ _ _ _ _ => (pe_op op_mulA (pe_op op_add (pv 1) pe_int) (pv 2)))) pa_nil)))), ?_⟩
    refine w_start (σ := [some (.ref a), none, none]) rfl ?_
    repeat walk_at "st"
    refine lc_enumI2 (L := L) (fun i x => ((i : Int) + 1) * x) (fun R hR => ?_) ha (by omega) (fun i x hx hi H' e R hR => ?_) fun D H1 hD e hD1 => ?_
    · repeat walk_at "st"
      exact hR
    · simp only [wipe, List.map, List.set]
      repeat walk_at "st"
      exact hR H' (Same.refl _)
    repeat walk_at "st"
    refine ⟨D, _, rfl, SqL.of hD1, ?_⟩
    rw [enum_let]
    exact k H1 e
theorem d_filled_but (T : Txt K mg) (F : FD K mg "filled_but" s_filled_but) : Dn P w K mg base 1 "filled_but" s_filled_but ["letters", "many", "spared"] (spFillBut) := by
  refine dn_of F (fun _ _ _ _ _ _ us hl => match us, hl with | [_, _, _], _ => rfl) sc_filled_but (fun vs H Q E h => ?_) (fun fa cdv A outer s H vs Q E hr h => ?_)
  · obtain ⟨q, m, s, rfl, _⟩ := h
    rfl
  · obtain ⟨q, m, s, rfl, q1, q2, s1, hm, k⟩ := h
    have sz := sizeLine_eq
    have hc := capB_pos (q := (q : Int)) (by omega) s1
    refine ⟨_, PSs.nox (pss_cons (ps_par3 (i := 3) (j := 4) (l := 5) (by rfl) sc_filled_but.nd rfl rfl rfl (by decide) (by decide) (by decide) rfl rfl rfl (pa_cons (pv 0) (pa_cons pe_int (pa_cons (pv 1) pa_nil))) (by rfl))
 (pss_cons (ps_set (i := 6) sc_filled_but.nd rfl (Or.inl rfl) (pe_lst pa_nil))
 (pss_cons (ps_while PassesOwn.never (pt_cmpR op_gt (pv 5) pe_int (nomark _))
 (pss_cons (ps_if (pt_cmpR op_eq (pe_op op_add (pe_callB cl_lenQ (by rfl) T.n_len (by decide +kernel) (pa_cons (pv 6) pa_nil)) pe_int) (pv 2) (nomark _))
 (pss_one (ps_set (i := 4) sc_filled_but.nd rfl (Or.inl rfl) pe_int))
 pss_nil)
 (pss_cons (ps_set (i := 7) sc_filled_but.nd rfl (Or.inl rfl) (pe_callB (call_min2 rfl) (by rfl) T.n_min (by decide +kernel) (pa_cons (pe_callTy cl_int1 (by rfl) T.n_int (by decide +kernel) (pa_cons (pe_op op_sub (pv 3) (pv 4)) pa_nil)) (pa_cons (pe_callTy cl_int1 (by rfl) T.n_int (by decide +kernel) (pa_cons (pv 5) pa_nil)) pa_nil))))
 (pss_cons (ps_expr (pe_bm PySem.F.plainAttrs_list PySem.F.slot_list_append PySem.F.type_list_append mt_append (pv 6) (pa_cons (pv 7) pa_nil)))
 (pss_cons (ps_aug (i := 5) sc_filled_but.nd rfl (Or.inl rfl) (pv 7) iop_sub)
 (pss_one (ps_par (i := 3) (j := 4) (by rfl) sc_filled_but.nd rfl rfl (by decide) rfl rfl (pa_cons (pe_op op_mulA (pv 3) (pv 0)) (pa_cons (pe_op op_mulA (pv 4) (pv 0)) pa_nil)) (by rfl))))))))
 (pss_one (ps_ret (pv 6)))))), ?_⟩
    refine w_start (σ := [some (.int q), some (.int m), some (.int s), none, none, none, none, none]) rfl ?_
    repeat walk_at "st"
    refine ⟨by walk_at "len", fun fo hfo => ?_⟩
    repeat walk_at "st"
    with_reducible refine w_seq ?_
    have l0 : ∀ d : Nat, (if s ≤ d then (q : Int) ^ (d - s) else 0) = (if s ≤ d then (q : Int) ^ (d - s) else 0) := fun _ => rfl
    refine ⟨fun t σ' H' => ∃ (F : List Int) (lf : Int) (o : Option V), σ' = [some (.int q), some (.int m), some (.int s), some (.int ((q : Int) ^ (F.length + 1))), some (.int (if s ≤ F.length then (q : Int) ^ (F.length + 1 - s) else 0)), some (.int lf), some (.ref fo), o] ∧ t = lf.toNat ∧ Same H H' ∧ H' fo = some (.lst (F.map V.int)) ∧ F ++ fill (capB q s) (F.length + 1) lf = fill (capB q s) 1 m ∧ lf ≤ m,
      ⟨_, [], m, none, by rw [show ([] : List Int).length = 0 from rfl, if_neg (by omega)]; show _ = [_, _, _, some (V.int ((q : Int) ^ 1)), _, _, _, _]; rw [Int.pow_succ, Int.pow_zero, Int.one_mul], rfl, same_new hfo (Same.refl H), upd_same, rfl, Int.le_refl _⟩, ?_⟩
    rintro t σ' H' ⟨F, lf, o, rfl, rfl, e, hF, hinv, hle⟩
    have fl : F.length ≤ 5000 := by
      have h1 := congrArg List.length hinv
      have h2 := fill_len hc _ 1 m (Nat.le_refl _)
      rw [List.length_append] at h1
      omega
    repeat walk_at "st"
    refine w_ite (fun h1 => ?_) (fun h1 => ?_)
    · have nx := fill_next hc hinv (by omega)
      refine ⟨fun σ2 H2 => ∃ tk o, σ2 = [some (.int q), some (.int m), some (.int s), some (.int ((q : Int) ^ (F.length + 1) * q)), some (.int (if s ≤ F.length + 1 then (q : Int) ^ (F.length + 2 - s) else 0)), some (.int (lf - tk)), some (.ref fo), o] ∧ Same H H2 ∧ H2 fo = some (.lst ((F ++ [tk]).map V.int)) ∧ tk = min (capB q s (F.length + 1)) lf, ?_, ?_⟩
      · rintro σ2 H2 ⟨tk, o2, rfl, e2, hF2, htk⟩
        have := hc (F.length + 1)
        refine ⟨(lf - tk).toNat, by omega, F ++ [tk], lf - tk, o2, ?_, rfl, e2, hF2, ?_, by omega⟩
        · rw [List.length_append, List.length_singleton, ← Int.pow_succ]
        · rw [htk]
          exact nx
      · have lost : ∀ b : Bool, b = decide (F.length + 1 = s) → (if s ≤ F.length + 1 then (q : Int) ^ (F.length + 1 - s) else 0) = if b = true then (1 : Int) else (if s ≤ F.length then (q : Int) ^ (F.length + 1 - s) else 0) := fun b hb => by
          subst hb
          by_cases z : F.length + 1 = s
          · rw [if_pos (by omega), decide_eq_true z, if_pos rfl, z, Nat.sub_self, Int.pow_zero]
          · rw [decide_eq_false z, if_neg Bool.false_ne_true]
            by_cases z2 : s ≤ F.length
            · rw [if_pos (by omega), if_pos z2]
            · rw [if_neg (by omega), if_neg z2]
        repeat walk_at "st"
        with_reducible refine w_seq ?_
        repeat walk_at "st"
        rw [List.length_map]
        have fin : ∀ (tk ls : Int), tk = min ((q : Int) ^ (F.length + 1) - ls) lf → ls = (if s ≤ F.length + 1 then (q : Int) ^ (F.length + 1 - s) else 0) → ∀ o, ∃ tk' o', ([some (.int q), some (.int m), some (.int s), some (.int ((q : Int) ^ (F.length + 1) * q)), some (.int (ls * q)), some (.int (lf - tk)), some (.ref fo), o] : L2.St) = [some (.int q), some (.int m), some (.int s), some (.int ((q : Int) ^ (F.length + 1) * q)), some (.int (if s ≤ F.length + 1 then (q : Int) ^ (F.length + 2 - s) else 0)), some (.int (lf - tk')), some (.ref fo), o'] ∧ Same H (upd H' fo (.lst ((F ++ [tk]).map V.int))) ∧ (upd H' fo (.lst ((F ++ [tk]).map V.int))) fo = some (.lst ((F ++ [tk']).map V.int)) ∧ tk' = min (capB q s (F.length + 1)) lf :=
          fun tk ls h1 h2 o => ⟨tk, o, by
            have e4 : ls * (q : Int) = if s ≤ F.length + 1 then (q : Int) ^ (F.length + 2 - s) else 0 := by
              rw [h2]
              by_cases z : s ≤ F.length + 1
              · rw [if_pos z, if_pos z, show F.length + 2 - s = (F.length + 1 - s) + 1 by omega, Int.pow_succ]
              · rw [if_neg z, if_neg z, Int.zero_mul]
            rw [e4], same_put hfo e, upd_same, by rw [h1, h2]; rfl⟩
        refine w_ite (fun h2 => ?_) (fun h2 => ?_)
        · have h2 : F.length + 1 = s := by injection h2 with h2; omega
          repeat walk_at "st"
          refine ⟨_, _, rfl, ?_⟩
          repeat walk_at "st"
          refine w_appI hF (by omega) ?_
          repeat walk_at "st"
          refine fin _ _ (by rw [min_if]) ?_ _
          rw [lost true (decide_eq_true h2).symm, if_pos rfl]
        · have h2 : ¬ F.length + 1 = s := fun z => h2 (by rw [← z]; rfl)
          repeat walk_at "st"
          refine ⟨_, _, rfl, ?_⟩
          repeat walk_at "st"
          refine w_appI hF (by omega) ?_
          repeat walk_at "st"
          refine fin _ _ (by rw [min_if]) ?_ _
          rw [lost false (decide_eq_false h2).symm, if_neg Bool.false_ne_true]
    · repeat walk_at "st"
      have z : fill (capB q s) (F.length + 1) lf = [] := fill_nil (by omega)
      rw [z, List.append_nil] at hinv
      rw [hinv] at hF
      exact k fo H' hfo e hF
theorem d_added (T : Txt K mg) (F : FD K mg "added" s_added) : Dn P w K mg base 1 "added" s_added ["counts", "others"] (spAdded) := by
  refine dn_of F (fun _ _ _ _ _ _ us hl => match us, hl with | [_, _], _ => rfl) sc_added (fun vs H Q E h => ?_) (fun fa cdv A outer s H vs Q E hr h => ?_)
  · obtain ⟨a, b, L, M, rfl, _⟩ := h
    rfl
  · obtain ⟨a, b, L, M, rfl, ha, hb, l1, l2, k⟩ := h
    have sz := sizeLine_eq
    refine ⟨_, PSs.nox (pss_cons (ps_set (i := 2) sc_added.nd rfl (Or.inl rfl) (pe_callB (call_max2 rfl) (by rfl) T.n_max (by decide +kernel) (pa_cons (pe_callB cl_lenQ (by rfl) T.n_len (by decide +kernel) (pa_cons (pv 0) pa_nil)) (pa_cons (pe_callB cl_lenQ (by rfl) T.n_len (by decide +kernel) (pa_cons (pv 1) pa_nil)) pa_nil))))
 (pss_cons (ps_par (i := 3) (j := 4) (by rfl) sc_added.nd rfl rfl (by decide) rfl rfl (pa_cons (pe_lst (StX.pa_star (pv 0) (StX.pa_star (pe_op op_rep (pe_lst (pa_cons pe_int pa_nil)) (pe_op op_sub (pv 2) (pe_callB cl_lenQ (by rfl) T.n_len (by decide +kernel) (pa_cons (pv 0) pa_nil)))) pa_nil))) (pa_cons (pe_lst (StX.pa_star (pv 1) (StX.pa_star (pe_op op_rep (pe_lst (pa_cons pe_int pa_nil)) (pe_op op_sub (pv 2) (pe_callB cl_lenQ (by rfl) T.n_len (by decide +kernel) (pa_cons (pv 1) pa_nil)))) pa_nil))) pa_nil)) (by rfl))
 (pss_one (ps_ret (pe_lc (own := [("one", 5), ("other", 6)]) (tt := tYes) (g := gTup K 2 (gCons (gName 5) (gCons (gName 6) (gNil)))) rfl sc_added.nd (RZ.pi_zipA (by rfl) T.n_zip (pa_cons (pv 3) (pa_cons (pv 4) pa_nil))) (blkOk_by (N := ["counts", "others", "size", "first", "last", "one", "other"]) (sc := defScope s_added) (by decide +kernel)) (fun _ _ _ _ _ => (pg_tup rfl (pgs_cons (pg_name (i := 5) sc_added.nd rfl (Or.inl rfl)) (pgs_cons (pg_name (i := 6) sc_added.nd rfl (Or.inl rfl)) pgs_nil)))) (fun _ _ _ _ _ => pts_nil) (fun _ _ _ _ _ => (pe_op op_add (pv 5) (pv 6)))))))), ?_⟩
    refine w_start (σ := [some (.ref a), some (.ref b), none, none, none, none, none]) rfl ?_
    repeat walk_at "st"
    rw [List.length_map, List.length_map]
    refine ⟨_, _, rfl, ?_⟩
    obtain ⟨n, hn⟩ : ∃ n : Nat, n = max L.length M.length := ⟨_, rfl⟩
    rw [show (if (M.length : Int) > (L.length : Int) then (M.length : Int) else (L.length : Int)) = (n : Int) by split <;> omega]
    repeat walk_at "st"
    refine ⟨a, _, rfl, .inr (SqL.of ha), ?_⟩
    repeat walk_at "st"
    refine ⟨by walk_at "len", fun p1 hp1 => ?_⟩
    have s1 := same_new (o := .lst [.int 0]) hp1 (Same.refl H)
    have f1 : upd H p1 (.lst [.int 0]) p1 = some (.lst [.int 0]) := upd_same
    generalize upd H p1 (.lst [.int 0]) = H1 at s1 f1 ⊢
    have ha1 := s1 _ _ ha
    have hb1 := s1 _ _ hb
    repeat walk_at "st"
    rw [List.length_map]
    refine ⟨p1, _, _, rfl, rfl, f1, by omega, by omega, by show 1 * _ ≤ _; omega, fun p2 hp2 => ?_⟩
    rw [rep_map _ _, show ((n : Int) - (L.length : Int)).toNat = n - L.length by omega]
    have s2 := same_new (o := .lst ((List.replicate (n - L.length) (0 : Int)).map V.int)) hp2 (Same.refl H1)
    have f2 : upd H1 p2 (.lst ((List.replicate (n - L.length) (0 : Int)).map V.int)) p2 = some (.lst ((List.replicate (n - L.length) (0 : Int)).map V.int)) := upd_same
    generalize upd H1 p2 (.lst ((List.replicate (n - L.length) (0 : Int)).map V.int)) = H2 at s2 f2 ⊢
    refine ⟨p2, _, rfl, .inr (SqL.of f2), ?_⟩
    repeat walk_at "st"
    refine ⟨by simp only [List.length_append, List.length_map, List.length_replicate, List.length_nil]; omega, fun fr hfr => ?_⟩
    rw [List.append_nil, ← List.map_append]
    have s3 := same_new (o := .lst ((L ++ List.replicate (n - L.length) (0 : Int)).map V.int)) hfr (Same.refl H2)
    have f3 : upd H2 fr (.lst ((L ++ List.replicate (n - L.length) (0 : Int)).map V.int)) fr = some (.lst ((L ++ List.replicate (n - L.length) (0 : Int)).map V.int)) := upd_same
    generalize upd H2 fr (.lst ((L ++ List.replicate (n - L.length) (0 : Int)).map V.int)) = H3 at s3 f3 ⊢
    have hb3 := s3 _ _ (s2 _ _ hb1)
    repeat walk_at "st"
    refine ⟨b, _, rfl, .inr (SqL.of hb3), ?_⟩
    repeat walk_at "st"
    refine ⟨by walk_at "len", fun p3 hp3 => ?_⟩
    have s4 := same_new (o := .lst [.int 0]) hp3 (Same.refl H3)
    have f4 : upd H3 p3 (.lst [.int 0]) p3 = some (.lst [.int 0]) := upd_same
    generalize upd H3 p3 (.lst [.int 0]) = H4 at s4 f4 ⊢
    have hb4 := s4 _ _ hb3
    repeat walk_at "st"
    rw [List.length_map]
    refine ⟨p3, _, _, rfl, rfl, f4, by omega, by omega, by show 1 * _ ≤ _; omega, fun p4 hp4 => ?_⟩
    rw [rep_map _ _, show ((n : Int) - (M.length : Int)).toNat = n - M.length by omega]
    have s5 := same_new (o := .lst ((List.replicate (n - M.length) (0 : Int)).map V.int)) hp4 (Same.refl H4)
    have f5 : upd H4 p4 (.lst ((List.replicate (n - M.length) (0 : Int)).map V.int)) p4 = some (.lst ((List.replicate (n - M.length) (0 : Int)).map V.int)) := upd_same
    generalize upd H4 p4 (.lst ((List.replicate (n - M.length) (0 : Int)).map V.int)) = H5 at s5 f5 ⊢
    refine ⟨p4, _, rfl, .inr (SqL.of f5), ?_⟩
    repeat walk_at "st"
    refine ⟨by simp only [List.length_append, List.length_map, List.length_replicate, List.length_nil]; omega, fun ls hls => ?_⟩
    rw [List.append_nil, ← List.map_append]
    have s6 := same_new (o := .lst ((M ++ List.replicate (n - M.length) (0 : Int)).map V.int)) hls (Same.refl H5)
    have f6 : upd H5 ls (.lst ((M ++ List.replicate (n - M.length) (0 : Int)).map V.int)) ls = some (.lst ((M ++ List.replicate (n - M.length) (0 : Int)).map V.int)) := upd_same
    generalize upd H5 ls (.lst ((M ++ List.replicate (n - M.length) (0 : Int)).map V.int)) = H6 at s6 f6 ⊢
    have f36 := s6 _ _ (s5 _ _ (s4 _ _ f3))
    have sH : Same H H6 := ((((s1.trans s2).trans s3).trans s4).trans s5).trans s6
    repeat walk_at "st"
    refine lc_zipI (L := L ++ List.replicate (n - L.length) (0 : Int)) (M := M ++ List.replicate (n - M.length) (0 : Int)) (fun x y => x + y) (fun R hR => ?_) f36 f6 (by rw [List.length_append, List.length_replicate]; omega) (fun x y H' e R hR => ?_) fun D H7 hD e hD7 => ?_
    · repeat walk_at "st"
      exact hR
    · simp only [wipe, List.map, List.set]
      repeat walk_at "st"
      exact hR H' (Same.refl _)
    rw [hn, zip_zero _ (fun _ _ => rfl)] at hD7
    exact k D H7 (same_free sH hD) (sH.trans e) hD7
theorem d_spared_counts (T : Txt K mg) (F : FD K mg "spared_counts" s_spared_counts) (c_added : Dn P w K mg base 1 "added" s_added ["counts", "others"] (spAdded)) (c_filled_but : Dn P w K mg base 1 "filled_but" s_filled_but ["letters", "many", "spared"] (spFillBut)) (c_set_limit : ∀ h : Bool, Fr P w K mg base 1 (gtA K (cSet K h) "limit") ["self"] [] (spSetLimit K h)) : Dn P w K mg base 3 "spared_counts" s_spared_counts ["setting", "many", "spared"] (spSparedC K) := by
  refine dn_of F (fun _ _ _ _ _ _ us hl => match us, hl with | [_, _, _], _ => rfl) sc_spared_counts (fun vs H Q E h => ?_) (fun fa cdv A outer s H vs Q E hr h => ?_)
  · obtain ⟨a, S, m, s, rfl, _⟩ := h
    rfl
  · obtain ⟨a, S, m, s, rfl, hS, ok, hk, s1, s2, k⟩ := h
    have sz := sizeLine_eq
    obtain ⟨dx, l, ha, ⟨dl, hl⟩, q1, q2⟩ := hS
    have lim := ok.lim
    rw [hk] at lim hl
    obtain ⟨n0, n1⟩ : 0 ≤ S.ln ∧ S.ln ≤ 4096 := lim
    refine ⟨_, PSs.nox (pss_cons (ps_set (i := 3) sc_spared_counts.nd rfl (Or.inl rfl) (pe_any fun h => pe_pr (c_set_limit h) (T.cl_set h) (T.pr_limit h) hr (by decide) (pv 0)))
 (pss_cons (ps_set (i := 4) sc_spared_counts.nd rfl (Or.inl rfl) (pe_op op_cat (pe_op op_rep (pe_lst (pa_cons pe_int pa_nil)) (pe_op op_sub (pv 2) pe_int)) (pe_lst (pa_cons (pe_op op_sub (pv 1) (pe_fld (pv 3) rfl)) pa_nil))))
 (pss_one (ps_ret (pe_d c_added hr (by decide) rfl (pa_cons (pe_d c_filled_but hr (by decide) rfl (pa_cons (pe_fld (pv 0) rfl) (pa_cons (pe_fld (pv 3) rfl) (pa_cons (pv 2) pa_nil)))) (pa_cons (pv 4) pa_nil))))))), ?_⟩
    refine w_start (σ := [some (.ref a), some (.int m), some (.int (s : Nat)), none, none]) rfl ?_
    repeat walk_at "st"
    refine ⟨S.hid, ?_⟩
    repeat walk_at "st"
    refine ⟨a, dx, l, (S.q : Int), rfl, ha, ?_⟩
    repeat walk_at "st"
    refine ⟨by walk_at "len", fun p1 hp1 => ?_⟩
    have e1 := same_new (o := .lst [.int 0]) hp1 (Same.refl H)
    have f1 : upd H p1 (.lst [.int 0]) p1 = some (.lst [.int 0]) := upd_same
    generalize upd H p1 (.lst [.int 0]) = H1 at e1 f1 ⊢
    have ha1 := e1 _ _ ha
    have hl1 := e1 _ _ hl
    repeat walk_at "st"
    refine ⟨p1, _, _, rfl, rfl, f1, by omega, by omega, by show 1 * _ ≤ _; omega, fun p2 hp2 => ?_⟩
    rw [rep_map _ _, show ((s : Int) - 1).toNat = s - 1 by omega]
    have e2 := same_new (o := .lst ((List.replicate (s - 1) (0 : Int)).map V.int)) hp2 (Same.refl H1)
    have f2 : upd H1 p2 (.lst ((List.replicate (s - 1) (0 : Int)).map V.int)) p2 = some (.lst ((List.replicate (s - 1) (0 : Int)).map V.int)) := upd_same
    generalize upd H1 p2 (.lst ((List.replicate (s - 1) (0 : Int)).map V.int)) = H2 at e2 f2 ⊢
    have ha2 := e2 _ _ ha1
    have hl2 := e2 _ _ hl1
    repeat walk_at "st"
    refine ⟨by walk_at "len", fun p3 hp3 => ?_⟩
    have e3 := same_new (o := .lst [.int (m - S.ln)]) hp3 (Same.refl H2)
    have f3 : upd H2 p3 (.lst [.int (m - S.ln)]) p3 = some (.lst ([m - S.ln].map V.int)) := upd_same
    generalize upd H2 p3 (.lst [.int (m - S.ln)]) = H3 at e3 f3 ⊢
    have f23 := e3 _ _ f2
    refine w_catF f23 f3 (by rw [List.length_replicate]; show _ + 1 ≤ _; omega) fun p4 hp4 => ?_
    have e4 := same_new (o := .lst ((List.replicate (s - 1) (0 : Int) ++ [m - S.ln]).map V.int)) hp4 (Same.refl H3)
    have f4 : upd H3 p4 (.lst ((List.replicate (s - 1) (0 : Int) ++ [m - S.ln]).map V.int)) p4 = some (.lst ((List.replicate (s - 1) (0 : Int) ++ [m - S.ln]).map V.int)) := upd_same
    generalize upd H3 p4 (.lst ((List.replicate (s - 1) (0 : Int) ++ [m - S.ln]).map V.int)) = H4 at e4 f4 ⊢
    have eH : Same H H4 := ((e1.trans e2).trans e3).trans e4
    have ha4 := eH _ _ ha
    have hl4 := eH _ _ hl
    repeat walk_at "st"
    refine ⟨S.q, S.ln, s, rfl, q1, q2, s1, by omega, fun p5 H5 hp5 e5 f5 => ?_⟩
    have f45 := e5 _ _ f4
    repeat walk_at "st"
    have fl := fill_len (capB_pos (q := (S.q : Int)) (by omega) s1) _ 1 S.ln (Nat.le_refl _)
    refine ⟨p5, p4, _, _, rfl, f5, f45, by omega, by rw [List.length_append, List.length_replicate]; show _ + 1 ≤ _; omega, fun p6 H6 hp6 e6 f6 => ?_⟩
    exact k p6 H6 (same_free (eH.trans e5) hp6) ((eH.trans e5).trans e6) f6
end

end Pt_most
section Pt_most2
/-! ### levels.py: the least letters of so many codes, the most codes of so many letters -/
theorem fill_short {c : Nat → Int} (hc : ∀ d, 1 ≤ c d) : ∀ (k d : Nat) (l : Int), 1 ≤ k → l ≤ c (d + k - 1) → (fill c d l).length ≤ k
  | k, d, l, h1, h2 => by
    by_cases h : l ≤ 0
    · rw [fill_nil h]
      exact Nat.zero_le _
    · have := hc d
      rw [fill_cons hc (by omega), List.length_cons]
      by_cases h3 : l ≤ c d
      · rw [fill_nil (by omega)]
        exact h1
      · cases k with
        | zero => omega
        | succ k =>
          by_cases hk : k = 0
          · subst hk
            exact absurd h2 (by show ¬ l ≤ c (d + (0 + 1) - 1); rw [show d + (0 + 1) - 1 = d by omega]; exact h3)
          · have := fill_short hc k (d + 1) (l - min (c d) l) (by omega) (by rw [show d + 1 + k - 1 = d + (k + 1) - 1 by omega]; omega)
            omega
theorem fill_le {c : Nat → Int} (hc : ∀ d, 1 ≤ c d) : ∀ (n d : Nat) (l : Int), l.toNat ≤ n → ∀ x ∈ fill c d l, x ≤ l
  | n, d, l, hn => by
    by_cases h : l ≤ 0
    · rw [fill_nil h]
      intro x hx
      cases hx
    · cases n with
      | zero => omega
      | succ n =>
        have := hc d
        rw [fill_cons hc (by omega)]
        intro x hx
        rcases List.mem_cons.mp hx with rfl | hx
        · omega
        · have := fill_le hc n (d + 1) _ (by omega) x hx
          omega
theorem pow_mono {a b : Int} (h0 : 0 ≤ a) (h : a ≤ b) : ∀ n : Nat, a ^ n ≤ b ^ n
  | 0 => by rw [Int.pow_zero, Int.pow_zero]; exact Int.le_refl _
  | n + 1 => by
    rw [Int.pow_succ, Int.pow_succ]
    exact Int.mul_le_mul (pow_mono h0 h n) h h0 (Int.pow_nonneg (by omega))
theorem free_len {S : Sg} (ok : SgOk S) {m : Int} (h : m ≤ 10000000000000000000000000000000) : (fill (freeC S) 1 m).length ≤ 104 := by
  refine fill_short (freeC_pos ok) 104 1 m (by decide) (Int.le_trans h ?_)
  have q1 := ok.q1
  have f := first_pos ok
  show _ ≤ firstO S * (S.q : Int) ^ 103
  have p := pow_mono (a := 2) (b := (S.q : Int)) (by decide) (by omega) 103
  have := Int.mul_le_mul f p (by decide +kernel) (by omega)
  exact Int.le_trans (by decide +kernel) this
theorem short_len {S : Sg} (ok : SgOk S) (hk : S.lk = .short) {m : Int} (h : m ≤ 10000000000000000000000000000000) : (fill (capS (firstO S) S.q S.ln) 1 m).length ≤ 64 := by
  have lim := ok.lim
  rw [hk] at lim
  obtain ⟨n1, n2⟩ : 1 ≤ S.ln ∧ S.ln ≤ 64 := lim
  have q1 := ok.q1
  have f := first_pos ok
  have := fill_short (c := capS (firstO S) S.q S.ln) (capS_pos (by omega) (by omega)) S.ln.toNat 1 m (by omega) (by
    rw [show 1 + S.ln.toNat - 1 = S.ln.toNat by omega]
    unfold capS
    rw [if_pos (by omega)]
    exact Int.le_trans h (by decide +kernel))
  omega
theorem lc_lstQ {K : PySem.W.Frag} {σ : L2.St} {H : Hp} {Q : VK} {ts te : TE} {k : Nat} {vs : List Nat} {xs : List V} (f : V → V) (Po : Addr → Hp → Prop) (hts : ∀ R : VK, (∀ t H1, Po t H1 → R (.ref t) H1) → ts σ H R) (hp : ∀ t H1, Po t H1 → SqL K H1 t xs) (hl : xs.length ≤ sizeLine)
    (hel : ∀ t H0, Po t H0 → ∀ y ∈ xs, ∀ H', Same H0 H' → ∀ R : VK, (∀ H'', Same H' H'' → R (f y) H'') → te ((wipe σ vs).set k (some y)) H' R)
    (q : ∀ t H1 D H', Po t H1 → H1 D = none → Same H1 H' → H' D = some (.lst (xs.map f)) → Q (.ref D) H') (hw : ∀ v, wipe ((wipe σ vs).set k (some v)) vs = wipe σ vs := by intro _; rfl) :
    tLc (iList K ts) (gName k) tYes te vs σ H Q := by
  refine w_lc (hts _ fun t H1 h => ⟨t, rfl, ⟨xs, hp t H1 h⟩, lcI_map f (pureIt_list (hp t H1 h)) hl (fun y hy H' e R hR => hel t H1 h y hy H' e R hR) (fun D H' => q t H1 D H' h) hw⟩)
theorem loose_k {S : Sg} (h : looseB S = true) : S.lk = .standing := by
  unfold looseB at h
  cases hk : S.lk with
  | standing => rfl
  | _ => rw [hk] at h; simp [kEq] at h
theorem add_len (L : List Int) : ∀ M : List Int, (addO L M).length ≤ L.length + M.length := by
  induction L with
  | nil => intro M; cases M <;> simp [addO]
  | cons x L ih =>
    intro M
    cases M with
    | nil => simp [addO]
    | cons y M =>
      have := ih M
      rw [addO, List.length_cons, List.length_cons, List.length_cons]
      omega
theorem spC_len {S : Sg} (ok : SgOk S) (hk : S.lk = .standing) {s : Nat} (hs : 1 ≤ s) (h : s ≤ 5000) (m : Int) : (spC S s m).length ≤ 10000 := by
  have lim := ok.lim
  have q1 := ok.q1
  rw [hk] at lim
  obtain ⟨n1, n2⟩ : 0 ≤ S.ln ∧ S.ln ≤ 4096 := lim
  have l1 := fill_len (capB_pos (q := (S.q : Int)) (by omega) hs) _ 1 S.ln (Nat.le_refl _)
  have l3 := add_len (fill (capB S.q s) 1 S.ln) (List.replicate (s - 1) 0 ++ [m - S.ln])
  rw [List.length_append, List.length_replicate, List.length_singleton] at l3
  unfold spC
  omega
theorem deep_le {S : Sg} (ok : SgOk S) (hk : S.lk = .standing) : deepO S ≤ 105 := by
  have lim := ok.lim
  rw [hk] at lim
  obtain ⟨n1, n2⟩ : 0 ≤ S.ln ∧ S.ln ≤ 4096 := lim
  have := free_len ok (m := S.ln) (by omega)
  unfold deepO
  omega
theorem cnt_len {S : Sg} (ok : SgOk S) {m : Int} (h : m ≤ 10000000000000000000000000000000) : (cntO S m).length ≤ 10000 := by
  have f1 := free_len ok h
  have lim := ok.lim
  unfold cntO
  cases hk : S.lk with
  | free => show (fill (freeC S) 1 m).length ≤ _; omega
  | short => have := short_len ok hk h; show (fill (capS (firstO S) S.q S.ln) 1 m).length ≤ _; omega
  | cleared =>
    rw [hk] at lim
    obtain ⟨n1, n2⟩ : 1 ≤ S.ln ∧ S.ln ≤ 4096 := lim
    show (if S.ln ≤ m then addO ((fill (freeC S) 1 S.ln).map fun x => x * (m / S.ln)) (fill (freeC S) 1 (m % S.ln)) else fill (freeC S) 1 m).length ≤ _
    split
    · have a := free_len ok (m := S.ln) (by omega)
      have b := free_len ok (m := m % S.ln) (by have := Int.emod_lt_of_pos m (show 0 < S.ln by omega); omega)
      have := add_len ((fill (freeC S) 1 S.ln).map fun x => x * (m / S.ln)) (fill (freeC S) 1 (m % S.ln))
      rw [List.length_map] at this
      omega
    · omega
  | standing =>
    show (if m ≤ S.ln then fill (freeC S) 1 m else if S.hid = true then [m] else spC S (spF S m) m).length ≤ _
    split
    · omega
    · split
      · show 1 ≤ _; omega
      · have s1 := fmin_spec (costO S m) (deepO S) (by unfold deepO; omega)
        have := deep_le ok hk
        exact spC_len ok hk s1.1 (by have := s1.2.1; show fminO _ _ ≤ _; omega) m
def spSparedF (K : PySem.W.Frag) : Sp := fun vs H Q _ => ∃ a S m, vs = [.ref a, .int m] ∧ SetAt K H a S ∧ SgOk S ∧ S.lk = .standing ∧ ∀ H', Same H H' → Q (.int (spF S m : Nat)) H'
def spLoose (K : PySem.W.Frag) : Sp := fun vs H Q _ => ∃ a S, vs = [.ref a] ∧ SetAt K H a S ∧ Q (.bl (looseB S)) H
def spCounts (K : PySem.W.Frag) : Sp := fun vs H Q _ => ∃ a S m, vs = [.ref a, .int m] ∧ SetAt K H a S ∧ SgOk S ∧ 0 ≤ m ∧ Big31 m ∧ NewI H Q (cntO S m)
def spLeast (K : PySem.W.Frag) : Sp := fun vs H Q _ => ∃ a S c, vs = [.ref a, .int c] ∧ SetAt K H a S ∧ SgOk S ∧ 0 ≤ c ∧ Big31 c ∧ ∀ H', Same H H' → Q (.int (leastO S c)) H'
def spNeedTold (K : PySem.W.Frag) : Sp := fun vs H Q _ => ∃ a S c, vs = [.ref a, .int c] ∧ SetAt K H a S ∧ (looseB S = true → c ≤ S.ln + 1) ∧ Q .non H
def spNeedToldOf (K : PySem.W.Frag) : Sp := fun vs H Q _ => ∃ a S z, vs = [.ref a, .int z] ∧ SetAt K H a S ∧ SgOk S ∧ (looseB S = true → z ≤ leastO S (S.ln + 1)) ∧ ∀ H', Same H H' → Q .non H'
def spMostOf (K : PySem.W.Frag) : Sp := fun vs H Q _ => ∃ a S z, vs = [.ref a, .int z] ∧ SetAt K H a S ∧ SgOk S ∧ BigI z ∧ ∀ r H', MostR S z r → r ≤ z → Same H H' → Q (.int r) H'
local macro_rules | `(tactic| walk_at "cond") => `(tactic| first | exact two_div | (refine small_mul ?_ ?_ <;> omega) | (refine small_mul' ?_ ?_ <;> omega) | (refine small_div ?_ ?_ <;> omega))
section
variable {P : Program} {w : World} {K : PySem.W.Frag} {mg : Str → Option Value} {base : Heap}
theorem d_spared_for (T : Txt K mg) (F : FD K mg "spared_for" s_spared_for) (c_letters_in : Dn P w K mg base 1 "letters_in" s_letters_in ["counts"] (spLetIn)) (c_spared_counts : Dn P w K mg base 3 "spared_counts" s_spared_counts ["setting", "many", "spared"] (spSparedC K)) (c_filled2 : Fr P w K mg base 2 (He.ga K "filled") ["setting", "many", "deepest"] [.non] (spFilled K)) (c_set_limit : ∀ h : Bool, Fr P w K mg base 1 (gtA K (cSet K h) "limit") ["self"] [] (spSetLimit K h)) : Dn P w K mg base 5 "spared_for" s_spared_for ["setting", "many"] (spSparedF K) := by
  refine dn_of F (fun _ _ _ _ _ _ us hl => match us, hl with | [_, _], _ => rfl) sc_spared_for (fun vs H Q E h => ?_) (fun fa cdv A outer s H vs Q E hr h => ?_)
  · obtain ⟨a, S, m, rfl, _⟩ := h
    rfl
  · obtain ⟨a, S, m, rfl, hS, ok, hk, k⟩ := h
    have sz := sizeLine_eq
    have hS0 := hS
    obtain ⟨dx, l, ha, ⟨dl, hl⟩, q1, q2⟩ := hS
    have lim := ok.lim
    rw [hk] at lim hl
    obtain ⟨n0, n1⟩ : 0 ≤ S.ln ∧ S.ln ≤ 4096 := lim
    have fl := free_len ok (m := S.ln) (by omega)
    refine ⟨_, PSs.nox (pss_cons (ps_set (i := 2) sc_spared_for.nd rfl (Or.inl rfl) (pe_op op_add (pe_callB cl_lenQ (by rfl) T.n_len (by decide +kernel) (pa_cons (pe_f c_filled2 T.gc_filled T.kp_filled hr (by decide) rfl (pa_cons (pv 0) (pa_cons (pe_fld (pe_any fun h => pe_pr (c_set_limit h) (T.cl_set h) (T.pr_limit h) hr (by decide) (pv 0)) rfl) pa_nil))) pa_nil)) pe_int))
 (pss_cons (ps_asg (pe_tup (pa_cons pe_non (pa_cons pe_int pa_nil))) (pg_tup rfl (pgs_cons (pg_name (i := 3) sc_spared_for.nd rfl (Or.inl rfl)) (pgs_cons (pg_name (i := 4) sc_spared_for.nd rfl (Or.inl rfl)) pgs_nil))))
 (pss_cons (ps_for PassesOwn.never rfl (pi_range2 rfl T.n_range (pa_cons pe_int (pa_cons (pe_op op_add (pv 2) pe_int) pa_nil))) (pg_name (i := 5) sc_spared_for.nd rfl (Or.inl rfl))
 (pss_cons (ps_set (i := 6) sc_spared_for.nd rfl (Or.inl rfl) (pe_callTy cl_int1 (by rfl) T.n_int (by decide +kernel) (pa_cons (pe_d c_letters_in hr (by decide) rfl (pa_cons (pe_d c_spared_counts hr (by decide) rfl (pa_cons (pv 0) (pa_cons (pv 1) (pa_cons (pv 5) pa_nil)))) pa_nil)) pa_nil)))
 (pss_one (ps_if (PW.pt (pw_or (pt_cmpR op_isN' (pv 3) pe_non (nomark _)) (pw_or1 (pt_cmpR op_lt (pv 6) (pv 3) (nomark _)))))
 (pss_one (ps_par (i := 3) (j := 4) (by rfl) sc_spared_for.nd rfl rfl (by decide) rfl rfl (pa_cons (pv 6) (pa_cons (pv 5) pa_nil)) (by rfl)))
 pss_nil))))
 (pss_one (ps_ret (pv 4)))))), ?_⟩
    refine w_start (σ := [some (.ref a), some (.int m), none, none, none, none, none]) rfl ?_
    repeat walk_at "st"
    refine ⟨S.hid, ?_⟩
    repeat walk_at "st"
    refine ⟨a, dx, l, (S.q : Int), rfl, ha, ?_⟩
    repeat walk_at "st"
    refine ⟨a, S, S.ln, none, rfl, hS0, by show S.ln ≤ _; omega, by show (fill (freeC S) 1 S.ln).length ≤ _; omega, fun p1 H1 hp1 e1 f1 => ?_⟩
    have f1 : H1 p1 = some (.lst ((fill (freeC S) 1 S.ln).map V.int)) := f1
    repeat walk_at "st"
    rw [List.length_map]
    refine ⟨by walk_at "len", fun tp htp => ?_⟩
    have e2 := same_new (o := .tup [.non, .int 1]) htp (Same.refl H1)
    have f2 : upd H1 tp (.tup [.non, .int 1]) tp = some (.tup [.non, .int 1]) := upd_same
    generalize upd H1 tp (.tup [.non, .int 1]) = H2 at e2 f2 ⊢
    repeat walk_at "st"
    with_reducible refine w_seq ?_
    repeat walk_at "st"
    have dl' : deepO S = (fill (freeC S) 1 S.ln).length + 1 := rfl
    refine w_rng2 (by omega) ?_
    have eH := e1.trans e2
    refine L2.for_range (fun i σ' H' => ∃ o5 o6, σ' = [some (.ref a), some (.int m), some (.int ((fill (freeC S) 1 S.ln).length + 1)), some (if i = 0 then V.non else .int (costO S m (fminO (costO S m) i))), some (.int (fminO (costO S m) i : Nat)), o5, o6] ∧ Same H H') ⟨none, none, rfl, eH⟩ ?_ ?_
    · rintro i σ' H' hi ⟨o5, o6, rfl, e⟩
      repeat walk_at "st"
      have h4 : i < (fill (freeC S) 1 S.ln).length + 1 := by omega
      rw [show (1 + (i : Int)) = ((i + 1 : Nat) : Int) by omega]
      refine ⟨a, S, m, i + 1, rfl, hS0.same e, ok, hk, by omega, by omega, fun p3 H3 hp3 e3 f3 => ?_⟩
      have ln3 := spC_len ok hk (show 1 ≤ i + 1 by omega) (by omega) m
      repeat walk_at "st"
      refine ⟨p3, _, rfl, .inl f3, ln3, fun H4 e4 => ?_⟩
      have e5 := (e.trans e3).trans e4
      repeat walk_at "st"
      rw [show letO 1 (spC S (i + 1) m) = costO S m (i + 1) from rfl]
      by_cases i0 : i = 0
      · subst i0
        repeat walk_at "st"
        exact ⟨_, _, rfl, e5⟩
      · rw [if_neg i0, if_neg (show ¬ i + 1 = 0 by omega), fminO, if_neg i0]
        repeat walk_at "st"
        refine w_ite (fun h5 => ?_) (fun h5 => ?_)
        · rw [if_pos h5]
          repeat walk_at "st"
          exact ⟨_, _, rfl, e5⟩
        · rw [if_neg h5]
          repeat walk_at "st"
          exact ⟨_, _, rfl, e5⟩
    · rintro σ' H' ⟨o5, o6, rfl, e⟩
      repeat walk_at "st"
      rw [show (((fill (freeC S) 1 S.ln).length : Int) + 1 + 1 - 1).toNat = deepO S by rw [dl']; omega]
      exact k H' e
theorem d_is_loose (T : Txt K mg) (F : FD K mg "is_loose" s_is_loose) (c_first_level : Dn P w K mg base 1 "first_level" s_first_level ["setting"] (spFirst K)) (c_set_limit : ∀ h : Bool, Fr P w K mg base 1 (gtA K (cSet K h) "limit") ["self"] [] (spSetLimit K h)) : Dn P w K mg base 3 "is_loose" s_is_loose ["setting"] (spLoose K) := by
  refine dn_of F (fun _ _ _ _ _ _ us hl => match us, hl with | [_], _ => rfl) sc_is_loose (fun vs H Q E h => ?_) (fun fa cdv A outer s H vs Q E hr h => ?_)
  · obtain ⟨a, S, rfl, _⟩ := h
    rfl
  · obtain ⟨a, S, rfl, hS, k⟩ := h
    have hS0 := hS
    obtain ⟨dx, l, ha, ⟨dl, hl⟩, q1, q2⟩ := hS
    obtain ⟨lk, elk⟩ : ∃ x, x = S.lk := ⟨_, rfl⟩
    have lo : looseB S = (S.hid && (kEq lk .standing && decide (firstO S ≤ S.ln))) := by rw [elk]; rfl
    rw [lo] at k
    rw [← elk] at hl
    refine ⟨_, PSs.nox (pss_cons (ps_if (PW.pt (pw_or (pt_not (pt_val (pe_callB call_isi (by rfl) T.n_isinstance (by decide +kernel) (pa_cons (pv 0) (pa_cons (pe_gc (x := "Hidden") rfl (T.gc_Hidden)) pa_nil))) (by intro _; rfl))) (pw_or1 (pt_not (pt_val (pe_callB call_isi (by rfl) T.n_isinstance (by decide +kernel) (pa_cons (pe_any fun h => pe_pr (c_set_limit h) (T.cl_set h) (T.pr_limit h) hr (by decide) (pv 0)) (pa_cons (pe_gc (x := "Standing") rfl (T.gc_lim .standing)) pa_nil))) (by intro _; rfl))))))
 (pss_one (ps_ret pe_bl))
 pss_nil)
 (pss_one (ps_ret (pe_cmpR op_ge (pe_fld (pe_any fun h => pe_pr (c_set_limit h) (T.cl_set h) (T.pr_limit h) hr (by decide) (pv 0)) rfl) (pe_d c_first_level hr (by decide) rfl (pa_cons (pv 0) pa_nil)) (nomark _))))), ?_⟩
    refine w_start (σ := [some (.ref a)]) rfl ?_
    with_reducible refine w_seq ?_
    repeat walk_at "st"
    refine w_isaB ha (T.cl_set _) (T.isa_hid _) ?_
    repeat walk_at "st"
    cases eh : S.hid with
    | false =>
      rw [eh] at k
      repeat walk_at "st"
      exact k
    | true =>
      repeat walk_at "st"
      refine ⟨S.hid, ?_⟩
      repeat walk_at "st"
      refine ⟨a, dx, l, (S.q : Int), rfl, ha, ?_⟩
      repeat walk_at "st"
      refine w_isaB hl (T.cl_lim lk) (T.isa_k lk .standing) ?_
      rw [eh] at k
      cases lk with
      | free =>
        repeat walk_at "st"
        exact k
      | short =>
        repeat walk_at "st"
        exact k
      | cleared =>
        repeat walk_at "st"
        exact k
      | standing =>
        repeat walk_at "st"
        refine ⟨S.hid, ?_⟩
        repeat walk_at "st"
        refine ⟨a, dx, l, (S.q : Int), rfl, ha, ?_⟩
        repeat walk_at "st"
        refine ⟨a, S, rfl, hS0, ?_⟩
        repeat walk_at "st"
        exact k
theorem d_counts_for (T : Txt K mg) (F : FD K mg "counts_for" s_counts_for) (c_spared_counts : Dn P w K mg base 3 "spared_counts" s_spared_counts ["setting", "many", "spared"] (spSparedC K)) (c_added : Dn P w K mg base 1 "added" s_added ["counts", "others"] (spAdded)) (c_spared_for : Dn P w K mg base 5 "spared_for" s_spared_for ["setting", "many"] (spSparedF K)) (c_set_limit : ∀ h : Bool, Fr P w K mg base 1 (gtA K (cSet K h) "limit") ["self"] [] (spSetLimit K h)) (c_filled2 : Fr P w K mg base 2 (He.ga K "filled") ["setting", "many", "deepest"] [.non] (spFilled K)) (c_filled3 : Fr P w K mg base 2 (He.ga K "filled") ["setting", "many", "deepest"] [] (spFilled K)) : Dn P w K mg base 7 "counts_for" s_counts_for ["setting", "many"] (spCounts K) := by
  refine dn_of F (fun _ _ _ _ _ _ us hl => match us, hl with | [_, _], _ => rfl) sc_counts_for (fun vs H Q E h => ?_) (fun fa cdv A outer s H vs Q E hr h => ?_)
  · obtain ⟨a, S, m, rfl, _⟩ := h
    rfl
  · obtain ⟨a, S, m, rfl, hS, ok, m0, hm, k⟩ := h
    have hm : m ≤ 10000000000000000000000000000000 := hm
    have sz := sizeLine_eq
    have hS0 := hS
    obtain ⟨dx, l, ha, ⟨dl, hl⟩, q1, q2⟩ := hS
    have lim := ok.lim
    have ffl := free_len ok hm
    refine ⟨_, PSs.nox (pss_cons (ps_set (i := 2) sc_counts_for.nd rfl (Or.inr rfl) (pe_any fun h => pe_pr (c_set_limit h) (T.cl_set h) (T.pr_limit h) hr (by decide) (pv 0)))
 (pss_cons (ps_if (pt_val (pe_callB call_isi (by rfl) T.n_isinstance (by decide +kernel) (pa_cons (pv 2) (pa_cons (pe_gc (x := "Short") rfl (T.gc_lim .short)) pa_nil))) (by intro _; rfl))
 (pss_one (ps_ret (pe_f c_filled3 T.gc_filled T.kp_filled hr (by decide) rfl (pa_cons (pv 0) (pa_cons (pv 1) (pa_cons (pe_fld (pv 2) rfl) pa_nil))))))
 pss_nil)
 (pss_cons (ps_if (pt_val (pe_callB call_isi (by rfl) T.n_isinstance (by decide +kernel) (pa_cons (pv 2) (pa_cons (pe_gc (x := "Cleared") rfl (T.gc_lim .cleared)) pa_nil))) (by intro _; rfl))
 (pss_cons (ps_setLc (i := 3) (own := [("number", 5)]) (tt := tYes) (g := gName 5) rfl sc_counts_for.nd rfl rfl (sw_true rfl rfl rfl (by decide +kernel)) (pi_list (pe_f c_filled2 T.gc_filled T.kp_filled hr (by decide) rfl (pa_cons (pv 0) (pa_cons (pe_fld (pv 2) rfl) pa_nil)))) (blkOk_by (N := ["setting", "many", "limit", "whole", "found", "number"]) (sc := defScope s_counts_for) (by decide +kernel)) (fun _ _ _ _ _ => (pg_name (i := 5) sc_counts_for.nd rfl (Or.inl rfl))) (fun _ _ _ _ _ => pts_nil) (fun _ _ _ _ _ => (pe_op op_mulA (pv 5) (pe_op op_fdivW (pv 1) (pe_fldK (K := K) rfl (pv 2) rfl)))))
 (pss_cons (ps_set (i := 4) sc_counts_for.nd rfl (Or.inl rfl) (pe_d c_added hr (by decide) rfl (pa_cons (pv 3) (pa_cons (pe_f c_filled2 T.gc_filled T.kp_filled hr (by decide) rfl (pa_cons (pv 0) (pa_cons (pe_op op_mod (pv 1) (pe_fld (pv 2) rfl)) pa_nil))) pa_nil))))
 (pss_one (ps_ret (pe_ifExp (pt_cmpR op_ge (pv 1) (pe_fld (pv 2) rfl) (nomark _)) (pv 4) (pe_f c_filled2 T.gc_filled T.kp_filled hr (by decide) rfl (pa_cons (pv 0) (pa_cons (pv 1) pa_nil))))))))
 pss_nil)
 (pss_cons (ps_if (PW.pt (pw_or (pt_not (pt_val (pe_callB call_isi (by rfl) T.n_isinstance (by decide +kernel) (pa_cons (pv 2) (pa_cons (pe_gc (x := "Standing") rfl (T.gc_lim .standing)) pa_nil))) (by intro _; rfl))) (pw_or1 (pt_cmpR op_le (pv 1) (pe_fld (pv 2) rfl) (nomark _)))))
 (pss_one (ps_ret (pe_f c_filled2 T.gc_filled T.kp_filled hr (by decide) rfl (pa_cons (pv 0) (pa_cons (pv 1) pa_nil)))))
 pss_nil)
 (pss_cons (ps_if (pt_val (pe_callB call_isi (by rfl) T.n_isinstance (by decide +kernel) (pa_cons (pv 0) (pa_cons (pe_gc (x := "Hidden") rfl (T.gc_Hidden)) pa_nil))) (by intro _; rfl))
 (pss_one (ps_ret (pe_lst (pa_cons (pv 1) pa_nil))))
 pss_nil)
 (pss_one (ps_ret (pe_d c_spared_counts hr (by decide) rfl (pa_cons (pv 0) (pa_cons (pv 1) (pa_cons (pe_d c_spared_for hr (by decide) rfl (pa_cons (pv 0) (pa_cons (pv 1) pa_nil))) pa_nil))))))))))), ?_⟩
    refine w_start (σ := [some (.ref a), some (.int m), none, none, none, none]) rfl ?_
    repeat walk_at "st"
    refine ⟨S.hid, ?_⟩
    repeat walk_at "st"
    refine ⟨a, dx, l, (S.q : Int), rfl, ha, ?_⟩
    repeat walk_at "st"
    with_reducible refine w_seq ?_
    repeat walk_at "st"
    refine w_isaB hl (T.cl_lim _) (T.isa_k _ .short) ?_
    unfold cntO at k
    cases hk : S.lk with
    | short =>
      have cl := short_len ok hk hm
      rw [hk] at lim hl k
      obtain ⟨n1, n2⟩ : 1 ≤ S.ln ∧ S.ln ≤ 64 := lim
      repeat walk_at "st"
      refine ⟨a, S, m, some S.ln, rfl, hS0, hm, by show (fill (capS (firstO S) S.q S.ln) 1 m).length ≤ _; omega, fun p1 H1 hp1 e1 f1 => ?_⟩
      exact k p1 H1 hp1 e1 f1
    | free =>
      rw [hk] at lim hl k
      repeat walk_at "st"
      with_reducible refine w_seq ?_
      repeat walk_at "st"
      refine w_isaB hl (T.cl_lim _) (T.isa_k _ .cleared) ?_
      repeat walk_at "st"
      with_reducible refine w_seq ?_
      repeat walk_at "st"
      refine w_isaB hl (T.cl_lim _) (T.isa_k _ .standing) ?_
      repeat walk_at "st"
      refine ⟨a, S, m, none, rfl, hS0, hm, by show (fill (freeC S) 1 m).length ≤ _; omega, fun p1 H1 hp1 e1 f1 => ?_⟩
      exact k p1 H1 hp1 e1 f1
    | cleared =>
      rw [hk] at lim hl k
      obtain ⟨n1, n2⟩ : 1 ≤ S.ln ∧ S.ln ≤ 4096 := lim
      have nfl := free_len ok (m := S.ln) (by omega)
      have k : NewI H Q (if S.ln ≤ m then addO ((fill (freeC S) 1 S.ln).map fun x => x * (m / S.ln)) (fill (freeC S) 1 (m % S.ln)) else fill (freeC S) 1 m) := k
      repeat walk_at "st"
      with_reducible refine w_seq ?_
      repeat walk_at "st"
      refine w_isaB hl (T.cl_lim _) (T.isa_k _ .cleared) ?_
      repeat walk_at "st"
      refine lc_lstQ (xs := (fill (freeC S) 1 S.ln).map V.int) (fun v => match v with | .int x => .int (x * (m / S.ln)) | v => v) (fun t H1 => Same H H1 ∧ H1 t = some (.lst ((fill (freeC S) 1 S.ln).map V.int))) (fun R hR => ?_) (fun t H1 h => SqL.of h.2) (by rw [List.length_map]; omega) (fun t H1 h y hy H' e R hR => ?_) fun t H1 D H2 h1 hD e2 f2 => ?_
      · repeat walk_at "st"
        refine ⟨a, S, S.ln, none, rfl, hS0, by show S.ln ≤ _; omega, by show (fill (freeC S) 1 S.ln).length ≤ _; omega, fun p1 H1 hp1 e1 f1 => ?_⟩
        exact hR p1 H1 ⟨e1, f1⟩
      · obtain ⟨x, hx, rfl⟩ := List.mem_map.mp hy
        have x1 := fill_pos (freeC_pos ok) _ 1 S.ln (Nat.le_refl _) x hx
        have x2 := fill_le (freeC_pos ok) _ 1 S.ln (Nat.le_refl _) x hx
        have hl' := (h.1.trans e) _ _ hl
        simp only [wipe, List.map, List.set]
        repeat walk_at "st"
        exact hR H' (Same.refl _)
      have e12 := h1.1.trans e2
      have ha2 := e12 _ _ ha
      have hl2 := e12 _ _ hl
      rw [List.map_map] at f2
      have f2 : H2 D = some (.lst (((fill (freeC S) 1 S.ln).map fun x => x * (m / S.ln)).map V.int)) := by rw [f2, List.map_map]; rfl
      repeat walk_at "st"
      have r0 := Int.emod_nonneg m (show S.ln ≠ 0 by omega)
      have r1 := Int.emod_lt_of_pos m (show 0 < S.ln by omega)
      have rfl' := free_len ok (m := m % S.ln) (by omega)
      refine ⟨a, S, m % S.ln, none, rfl, hS0.same e12, by show m % S.ln ≤ _; omega, by show (fill (freeC S) 1 (m % S.ln)).length ≤ _; omega, fun p3 H3 hp3 e3 f3 => ?_⟩
      have f23 := e3 _ _ f2
      repeat walk_at "st"
      refine ⟨D, p3, _, _, rfl, f23, f3, by rw [List.length_map]; omega, by show (fill (freeC S) 1 (m % S.ln)).length ≤ _; omega, fun p4 H4 hp4 e4 f4 => ?_⟩
      have e14 := (e12.trans e3).trans e4
      have ha4 := e14 _ _ ha
      have hl4 := e14 _ _ hl
      repeat walk_at "st"
      refine w_ite (fun h5 => ?_) (fun h5 => ?_)
      · rw [if_pos h5] at k
        repeat walk_at "st"
        exact k p4 H4 (same_free (e12.trans e3) hp4) e14 f4
      · rw [if_neg h5] at k
        repeat walk_at "st"
        refine ⟨a, S, m, none, rfl, hS0.same e14, hm, by show (fill (freeC S) 1 m).length ≤ _; omega, fun p5 H5 hp5 e5 f5 => ?_⟩
        exact k p5 H5 (same_free e14 hp5) (e14.trans e5) f5
    | standing =>
      rw [hk] at lim hl k
      obtain ⟨n1, n2⟩ : 0 ≤ S.ln ∧ S.ln ≤ 4096 := lim
      have k : NewI H Q (if m ≤ S.ln then fill (freeC S) 1 m else if S.hid = true then [m] else spC S (spF S m) m) := k
      repeat walk_at "st"
      with_reducible refine w_seq ?_
      repeat walk_at "st"
      refine w_isaB hl (T.cl_lim _) (T.isa_k _ .cleared) ?_
      repeat walk_at "st"
      with_reducible refine w_seq ?_
      repeat walk_at "st"
      refine w_isaB hl (T.cl_lim _) (T.isa_k _ .standing) ?_
      repeat walk_at "st"
      refine w_ite (fun h5 => ?_) (fun h5 => ?_)
      · rw [if_pos h5] at k
        repeat walk_at "st"
        refine ⟨a, S, m, none, rfl, hS0, hm, by show (fill (freeC S) 1 m).length ≤ _; omega, fun p5 H5 hp5 e5 f5 => ?_⟩
        exact k p5 H5 hp5 e5 f5
      · rw [if_neg h5] at k
        repeat walk_at "st"
        with_reducible refine w_seq ?_
        repeat walk_at "st"
        refine w_isaB ha (T.cl_set _) (T.isa_hid _) ?_
        repeat walk_at "st"
        cases eh : S.hid with
        | true =>
          rw [eh, if_pos rfl] at k
          repeat walk_at "st"
          refine ⟨by walk_at "len", fun p1 hp1 => ?_⟩
          exact k p1 _ hp1 (same_new hp1 (Same.refl H)) upd_same
        | false =>
          rw [eh, if_neg Bool.false_ne_true] at k
          repeat walk_at "st"
          refine ⟨a, S, m, rfl, hS0, ok, hk, fun H1 e1 => ?_⟩
          have s1 := (fmin_spec (costO S m) (deepO S) (by unfold deepO; omega))
          have nfl := free_len ok (m := S.ln) (by omega)
          have dl' : deepO S = (fill (freeC S) 1 S.ln).length + 1 := rfl
          repeat walk_at "st"
          refine ⟨a, S, m, spF S m, rfl, hS0.same e1, ok, hk, s1.1, by have := s1.2.1; show fminO _ _ ≤ _; omega, fun p2 H2 hp2 e2 f2 => ?_⟩
          exact k p2 H2 (same_free e1 hp2) (e1.trans e2) f2
theorem d_least_of (T : Txt K mg) (F : FD K mg "least_of" s_least_of) (c_letters_in : Dn P w K mg base 1 "letters_in" s_letters_in ["counts"] (spLetIn)) (c_counts_for : Dn P w K mg base 7 "counts_for" s_counts_for ["setting", "many"] (spCounts K)) : Dn P w K mg base 8 "least_of" s_least_of ["setting", "codes"] (spLeast K) := by
  refine dn_of F (fun _ _ _ _ _ _ us hl => match us, hl with | [_, _], _ => rfl) sc_least_of (fun vs H Q E h => ?_) (fun fa cdv A outer s H vs Q E hr h => ?_)
  · obtain ⟨a, S, c, rfl, _⟩ := h
    rfl
  · obtain ⟨a, S, c, rfl, hS, ok, c0, hc, k⟩ := h
    have hc : c ≤ 10000000000000000000000000000000 := hc
    refine ⟨_, PSs.nox (pss_one (ps_ret (pe_ifExp (pt_cmpR op_eq (pv 1) pe_int (nomark _)) pe_int (pe_op op_add (pe_d c_letters_in hr (by decide) rfl (pa_cons (pe_d c_counts_for hr (by decide) rfl (pa_cons (pv 0) (pa_cons (pe_op op_sub (pv 1) pe_int) pa_nil))) pa_nil)) pe_int)))), ?_⟩
    refine w_start (σ := [some (.ref a), some (.int c)]) rfl ?_
    repeat walk_at "st"
    by_cases h0 : c = 0
    · subst h0
      rw [show leastO S 0 = 0 from rfl] at k
      repeat walk_at "st"
      exact k H (Same.refl H)
    · have e0 : leastO S c = lenO S (c - 1) + 1 := if_neg h0
      rw [e0] at k
      refine w_iteF (decide_eq_false fun y => h0 (by injection y)) ?_
      repeat walk_at "st"
      refine ⟨a, S, c - 1, rfl, hS, ok, by omega, by show c - 1 ≤ _; omega, fun p1 H1 hp1 e1 f1 => ?_⟩
      repeat walk_at "st"
      refine ⟨p1, _, rfl, .inl f1, cnt_len ok (by omega), fun H2 e2 => ?_⟩
      repeat walk_at "st"
      exact k H2 (e1.trans e2)
theorem d_need_told_of (T : Txt K mg) (F : FD K mg "need_told_of" s_need_told_of) (c_is_loose : Dn P w K mg base 3 "is_loose" s_is_loose ["setting"] (spLoose K)) (c_least_of : Dn P w K mg base 8 "least_of" s_least_of ["setting", "codes"] (spLeast K)) (c_set_limit : ∀ h : Bool, Fr P w K mg base 1 (gtA K (cSet K h) "limit") ["self"] [] (spSetLimit K h)) : Dn P w K mg base 10 "need_told_of" s_need_told_of ["setting", "size"] (spNeedToldOf K) := by
  refine dn_of F (fun _ _ _ _ _ _ us hl => match us, hl with | [_, _], _ => rfl) sc_need_told_of (fun vs H Q E h => ?_) (fun fa cdv A outer s H vs Q E hr h => ?_)
  · obtain ⟨a, S, z, rfl, _⟩ := h
    rfl
  · obtain ⟨a, S, z, rfl, hS, ok, hz, k⟩ := h
    have hS0 := hS
    obtain ⟨dx, l, ha, ⟨dl, hl⟩, q1, q2⟩ := hS
    refine ⟨_, PSs.nox (pss_one (ps_if (PW.pt (pw_and (pt_val (pe_d c_is_loose hr (by decide) rfl (pa_cons (pv 0) pa_nil)) (by intro _; rfl)) (pw_and1 (pt_cmpR op_gt (pv 1) (pe_d c_least_of hr (by decide) rfl (pa_cons (pv 0) (pa_cons (pe_op op_add (pe_fld (pe_any fun h => pe_pr (c_set_limit h) (T.cl_set h) (T.pr_limit h) hr (by decide) (pv 0)) rfl) pe_int) pa_nil))) (nomark _)))))
 (pss_one ps_never)
 pss_nil)), ?_⟩
    refine w_start (σ := [some (.ref a), some (.int z)]) rfl ?_
    repeat walk_at "st"
    refine ⟨a, S, rfl, hS0, ?_⟩
    cases el : looseB S with
    | false =>
      repeat walk_at "st"
      exact k H (Same.refl H)
    | true =>
      have hk := loose_k el
      have lim := ok.lim
      rw [hk] at hl lim
      obtain ⟨n1, n2⟩ : 0 ≤ S.ln ∧ S.ln ≤ 4096 := lim
      have := hz el
      repeat walk_at "st"
      refine ⟨S.hid, ?_⟩
      repeat walk_at "st"
      refine ⟨a, dx, l, (S.q : Int), rfl, ha, ?_⟩
      repeat walk_at "st"
      refine ⟨a, S, S.ln + 1, rfl, hS0, ok, by omega, by show S.ln + 1 ≤ _; omega, fun H1 e1 => ?_⟩
      repeat walk_at "st"
      refine w_iteF (decide_eq_false (by omega)) ?_
      repeat walk_at "st"
      exact k H1 e1
theorem d_most_of (T : Txt K mg) (F : FD K mg "most_of" s_most_of) (c_is_loose : Dn P w K mg base 3 "is_loose" s_is_loose ["setting"] (spLoose K)) (c_least_of : Dn P w K mg base 8 "least_of" s_least_of ["setting", "codes"] (spLeast K)) (c_set_limit : ∀ h : Bool, Fr P w K mg base 1 (gtA K (cSet K h) "limit") ["self"] [] (spSetLimit K h)) : Dn P w K mg base 10 "most_of" s_most_of ["setting", "size"] (spMostOf K) := by
  refine dn_of F (fun _ _ _ _ _ _ us hl => match us, hl with | [_, _], _ => rfl) sc_most_of (fun vs H Q E h => ?_) (fun fa cdv A outer s H vs Q E hr h => ?_)
  · obtain ⟨a, S, z, rfl, _⟩ := h
    rfl
  · obtain ⟨a, S, z, rfl, hS, ok, hz, k⟩ := h
    have hS0 := hS
    obtain ⟨dx, l, ha, ⟨dl, hl⟩, q1, q2⟩ := hS
    refine ⟨_, PSs.nox (pss_cons (ps_par (i := 2) (j := 3) (by rfl) sc_most_of.nd rfl rfl (by decide) rfl rfl (pa_cons pe_int (pa_cons (pe_ifExp (pt_val (pe_d c_is_loose hr (by decide) rfl (pa_cons (pv 0) pa_nil)) (by intro _; rfl)) (pe_callB (call_min2 rfl) (by rfl) T.n_min (by decide +kernel) (pa_cons (pe_callTy cl_int1 (by rfl) T.n_int (by decide +kernel) (pa_cons (pv 1) pa_nil)) (pa_cons (pe_callTy cl_int1 (by rfl) T.n_int (by decide +kernel) (pa_cons (pe_op op_add (pe_fld (pe_any fun h => pe_pr (c_set_limit h) (T.cl_set h) (T.pr_limit h) hr (by decide) (pv 0)) rfl) pe_int) pa_nil)) pa_nil))) (pv 1)) pa_nil)) (by rfl))
 (pss_cons (ps_while PassesOwn.never (pt_cmpR op_lt (pv 2) (pv 3) (nomark _))
 (pss_cons (ps_set (i := 4) sc_most_of.nd rfl (Or.inl rfl) (pe_op op_fdivW (pe_op op_add (pe_op op_add (pv 2) (pv 3)) pe_int) pe_int))
 (pss_one (ps_if (pt_cmpR op_le (pe_d c_least_of hr (by decide) rfl (pa_cons (pv 0) (pa_cons (pv 4) pa_nil))) (pv 1) (nomark _))
 (pss_one (ps_set (i := 2) sc_most_of.nd rfl (Or.inl rfl) (pv 4)))
 (pss_one (ps_set (i := 3) sc_most_of.nd rfl (Or.inl rfl) (pe_op op_sub (pv 4) pe_int)))))))
 (pss_one (ps_ret (pv 2))))), ?_⟩
    refine w_start (σ := [some (.ref a), some (.int z), none, none, none]) rfl ?_
    repeat walk_at "st"
    refine ⟨a, S, rfl, hS0, ?_⟩
    have hz0 := hz.1
    have hz1 := hz.2
    cases el : looseB S
    case' false =>
      repeat walk_at "st"
      obtain ⟨hi, ehi⟩ : ∃ hi, hi = z := ⟨_, rfl⟩
      have b0 : 0 ≤ hi ∧ hi ≤ z ∧ (looseB S = true → hi ≤ S.ln + 1) ∧ ∀ c, hi < c → (looseB S = true → c ≤ S.ln + 1) → z < leastO S c :=
        ⟨by omega, by omega, fun y => (by rw [el] at y; cases y), fun c h1 h2 => by have := least_ge ok (c := c) (by omega) h2; omega⟩
      rw [show some (V.int z) :: [some (V.int 0), some (V.int z), none] = [some (V.int z), some (V.int 0), some (V.int hi), none] by rw [ehi]]
    case' true =>
      have hk := loose_k el
      have lim := ok.lim
      rw [hk] at hl lim
      obtain ⟨n1, n2⟩ : 0 ≤ S.ln ∧ S.ln ≤ 4096 := lim
      repeat walk_at "st"
      refine ⟨S.hid, ?_⟩
      repeat walk_at "st"
      refine ⟨a, dx, l, (S.q : Int), rfl, ha, ?_⟩
      repeat walk_at "st"
      refine ⟨_, _, rfl, ?_⟩
      repeat walk_at "st"
      obtain ⟨hi, ehi⟩ : ∃ hi, hi = (if S.ln + 1 < z then S.ln + 1 else z) := ⟨_, rfl⟩
      have b0 : 0 ≤ hi ∧ hi ≤ z ∧ (looseB S = true → hi ≤ S.ln + 1) ∧ ∀ c, hi < c → (looseB S = true → c ≤ S.ln + 1) → z < leastO S c := by
        refine ⟨?_, ?_, fun _ => ?_, fun c h1 h2 => ?_⟩
        · rw [ehi]; split <;> omega
        · rw [ehi]; split <;> omega
        · rw [ehi]; split <;> omega
        · have e1 := h2 el
          have := least_ge ok (c := c) (by omega) h2
          have : z < c := by rw [ehi] at h1; split at h1 <;> omega
          omega
      rw [← ehi]
    all_goals
      clear ehi
      obtain ⟨b1, b2, b3, b4⟩ := b0
      with_reducible refine w_seq ?_
      refine ⟨fun t σ' H' => ∃ (lo hi : Int) (o : Option V), σ' = [some (.ref a), some (.int z), some (.int lo), some (.int hi), o] ∧ t = (hi - lo).toNat ∧ Same H H' ∧ 0 ≤ lo ∧ lo ≤ hi ∧ hi ≤ z ∧ (looseB S = true → hi ≤ S.ln + 1) ∧ leastO S lo ≤ z ∧ ∀ c, hi < c → (looseB S = true → c ≤ S.ln + 1) → z < leastO S c,
        ⟨_, 0, hi, none, rfl, rfl, Same.refl H, Int.le_refl _, b1, b2, b3, by rw [least_zero]; exact hz0, b4⟩, ?_⟩
      rintro t σ' H' ⟨lo, hi, o, rfl, rfl, e, l0, lh, hz, hlo, hle, hgt⟩
      repeat walk_at "st"
      refine w_ite (fun h1 => ?_) (fun h1 => ?_)
      · refine ⟨_, fun σ' H' h => h, ?_⟩
        repeat walk_at "st"
        have em : lo < (lo + hi + 1) / 2 ∧ (lo + hi + 1) / 2 ≤ hi := by omega
        obtain ⟨mid, hmid⟩ : ∃ x, x = (lo + hi + 1) / 2 := ⟨_, rfl⟩
        rw [← hmid] at em ⊢
        refine ⟨a, S, mid, rfl, hS0.same e, ok, by omega, by show mid ≤ _; omega, fun H1 e1 => ?_⟩
        repeat walk_at "st"
        refine w_ite (fun h2 => ?_) (fun h2 => ?_)
        · repeat walk_at "st"
          exact ⟨_, by omega, mid, hi, _, rfl, rfl, e.trans e1, by omega, by omega, hz, hlo, h2, hgt⟩
        · repeat walk_at "st"
          refine ⟨_, by omega, lo, mid - 1, _, rfl, rfl, e.trans e1, l0, by omega, by omega, fun y => by have := hlo y; omega, hle, fun c c1 c2 => ?_⟩
          have := least_mono ok (a := mid) (b := c) (by omega) (by omega) c2
          omega
      · repeat walk_at "st"
        have e1 : lo = hi := by omega
        subst e1
        exact k lo H' ⟨l0, hlo, hle, hgt⟩ hz e
end

end Pt_most2
section Pt_most3
/-! ### Most -/
abbrev cMst (K : PySem.W.Frag) : Addr := He.ga K "Most"
def MstAt (K : PySem.W.Frag) (H : Hp) (x : Addr) (S : Sg) : Prop := ∃ dx a, H x = some (.ins (cMst K) dx [("setting", .ref a)]) ∧ SetAt K H a S
theorem MstAt.same {K : PySem.W.Frag} {H H' : Hp} {x : Addr} {S : Sg} (e : Same H H') (h : MstAt K H x S) : MstAt K H' x S := let ⟨dx, a, h, h2⟩ := h; ⟨dx, a, e _ _ h, h2.same e⟩
def TellsM (S : Sg) (z : Int) : Prop := looseB S = true → z ≤ leastO S (S.ln + 1)
def TellsC (S : Sg) (c : Int) : Prop := looseB S = true → c ≤ S.ln + 1
def spMostInit (K : PySem.W.Frag) : Sp := fun vs H Q _ => ∃ x dx a S, vs = [.ref x, .ref a] ∧ H x = some (.ins (cMst K) dx []) ∧ SetAt K H a S ∧ Q .non (upd H x (.ins (cMst K) dx [("setting", .ref a)]))
def spToldM (K : PySem.W.Frag) : Sp := fun vs H Q _ => ∃ a S z, vs = [.ref a, .int z] ∧ SetAt K H a S ∧ SgOk S ∧ BigI z ∧ TellsM S z ∧ ∀ r H', MostR S z r → r ≤ z → Same H H' → Q (.int r) H'
def spMostCall (K : PySem.W.Frag) : Sp := fun vs H Q _ => ∃ x S z, vs = [.ref x, .int z] ∧ MstAt K H x S ∧ SgOk S ∧ BigI z ∧ TellsM S z ∧ ∀ r H', MostR S z r → r ≤ z → Same H H' → Q (.int r) H'
def spMostItem (K : PySem.W.Frag) : Sp := fun vs H Q _ => ∃ x S c, vs = [.ref x, .int c] ∧ MstAt K H x S ∧ SgOk S ∧ BigI c ∧ TellsC S c ∧ ∀ H', Same H H' → Q (.int (leastO S c)) H'
def spMostMod (K : PySem.W.Frag) : Sp := fun vs H Q _ => ∃ x S z, vs = [.ref x, .int z] ∧ MstAt K H x S ∧ SgOk S ∧ BigI z ∧ TellsM S z ∧ ∀ r H', MostR S z r → Same H H' → Q (.int (z - leastO S r)) H'
def spMostIn (K : PySem.W.Frag) : Sp := fun vs H Q _ => ∃ x S z, vs = [.ref x, .int z] ∧ MstAt K H x S ∧ SgOk S ∧ BigI z ∧ TellsM S z ∧ ∀ r H', MostR S z r → Same H H' → Q (.bl (decide (leastO S r = z))) H'
def spMost (K : PySem.W.Frag) : Sp := fun vs H Q _ => ∃ a S z, vs = [.ref a, .int z] ∧ SetAt K H a S ∧ SgOk S ∧ BigI z ∧ TellsM S z ∧ ∀ r H', MostR S z r → Same H H' → Q (.int r) H'
def spLeastL (K : PySem.W.Frag) : Sp := fun vs H Q _ => ∃ a S c, vs = [.ref a, .int c] ∧ SetAt K H a S ∧ SgOk S ∧ BigI c ∧ TellsC S c ∧ ∀ H', Same H H' → Q (.int (leastO S c)) H'
theorem intEqM (a b : Int) : decide (V.int a = V.int b) = decide (a = b) := by simp
theorem same_threeM {H : Hp} {x dx : Addr} {o u v : HO} (h1 : H x = none) (h2 : H dx = none) : Same H (upd (upd (upd H dx o) x u) x v) := fun b w hb => by
  rw [upd_ne (ne_of_none hb h1)]
  exact same_two h1 h2 b w hb
theorem big31 {z : Int} (h : BigI z) : Big31 z := by have := h.2; show z ≤ _; omega
set_option hygiene false in
local macro_rules | `(tactic| walk_at "na") => `(tactic| exact T.na_mst_setting)
set_option hygiene false in
local macro_rules | `(tactic| walk_at "cl") => `(tactic| exact T.cl_mst)
section
variable {P : Program} {w : World} {K : PySem.W.Frag} {mg : Str → Option Value} {base : Heap}
theorem d_told_most (T : Txt K mg) (F : FD K mg "told_most" s_told_most) (c_need_size : Dn P w K mg base 4 "need_size" s_need_size ["value"] (spNeedSize)) (c_need_told_of : Dn P w K mg base 10 "need_told_of" s_need_told_of ["setting", "size"] (spNeedToldOf K)) (c_most_of : Dn P w K mg base 10 "most_of" s_most_of ["setting", "size"] (spMostOf K)) : Dn P w K mg base 11 "told_most" s_told_most ["setting", "n"] (spToldM K) := by
  refine dn_of F (fun _ _ _ _ _ _ us hl => match us, hl with | [_, _], _ => rfl) sc_told_most (fun vs H Q E h => ?_) (fun fa cdv A outer s H vs Q E hr h => ?_)
  · obtain ⟨a, S, z, rfl, _⟩ := h
    rfl
  · obtain ⟨a, S, z, rfl, hS, ok, hz, ht, k⟩ := h
    refine ⟨_, PSs.nox (pss_cons (ps_expr (pe_d c_need_size hr (by decide) rfl (pa_cons (pv 1) pa_nil)))
 (pss_cons (ps_expr (pe_d c_need_told_of hr (by decide) rfl (pa_cons (pv 0) (pa_cons (pv 1) pa_nil))))
 (pss_one (ps_ret (pe_d c_most_of hr (by decide) rfl (pa_cons (pv 0) (pa_cons (pv 1) pa_nil))))))), ?_⟩
    refine w_start (σ := [some (.ref a), some (.int z)]) rfl ?_
    repeat walk_at "st"
    refine ⟨z, rfl, hz.1, hz.2, ?_⟩
    repeat walk_at "st"
    refine ⟨a, S, z, rfl, hS, ok, ht, fun H1 e1 => ?_⟩
    repeat walk_at "st"
    refine ⟨a, S, z, rfl, hS.same e1, ok, hz, fun r H2 hr h1 e2 => ?_⟩
    exact k r H2 hr h1 (e1.trans e2)
theorem d_Most___init__ (T : Txt K mg) {f : Addr} (F : FA K "__init__" "Most.__init__" s_Most___init__ [] f) (c_need_setting : Dn P w K mg base 1 "need_setting" s_need_setting ["value", "part"] (spNeedSet K)) : Fr P w K mg base 2 (f) ["self", "setting"] [] (spMostInit K) := by
  refine fr_of0 F (fun _ _ _ _ _ _ us hl => match us, hl with | [_, _], _ => rfl) sc_Most___init__ (fun vs H Q E h => ?_) (fun fa cdv A outer s H vs Q E hr h => ?_)
  · obtain ⟨x, dx, a, S, rfl, _⟩ := h
    rfl
  · obtain ⟨x, dx, a, S, rfl, hx, hS, k⟩ := h
    refine ⟨_, PSs.nox (pss_cons (ps_expr (pe_d c_need_setting hr (by decide) rfl (pa_cons (pv 1) (pa_cons pe_str pa_nil))))
 (pss_one (ps_fld (pv 0) (pv 1) rfl))), ?_⟩
    refine w_start (σ := [some (.ref x), some (.ref a)]) rfl ?_
    repeat walk_at "st"
    refine ⟨a, S, _, rfl, hS, ?_⟩
    repeat walk_at "st"
    exact k
theorem d_Most___call__ (T : Txt K mg) {f : Addr} (F : FA K "__call__" "Most.__call__" s_Most___call__ [] f) (c_told_most : Dn P w K mg base 11 "told_most" s_told_most ["setting", "n"] (spToldM K)) : Fr P w K mg base 12 (f) ["self", "n"] [] (spMostCall K) := by
  refine fr_of0 F (fun _ _ _ _ _ _ us hl => match us, hl with | [_, _], _ => rfl) sc_Most___call__ (fun vs H Q E h => ?_) (fun fa cdv A outer s H vs Q E hr h => ?_)
  · obtain ⟨x, S, z, rfl, _⟩ := h
    rfl
  · obtain ⟨x, S, z, rfl, ⟨dx, a, hx, hS⟩, ok, hz, ht, k⟩ := h
    refine ⟨_, PSs.nox (pss_one (ps_ret (pe_d c_told_most hr (by decide) rfl (pa_cons (pe_fld (pv 0) rfl) (pa_cons (pv 1) pa_nil))))), ?_⟩
    refine w_start (σ := [some (.ref x), some (.int z)]) rfl ?_
    repeat walk_at "st"
    exact ⟨a, S, z, rfl, hS, ok, hz, ht, fun r H' hr h1 e => k r H' hr h1 e⟩
theorem d_most (T : Txt K mg) (F : FD K mg "most" s_most) (c_Most___init__ : Fr P w K mg base 2 (He.ma K (He.ga K "Most") "__init__") ["self", "setting"] [] (spMostInit K)) (c_Most___call__ : Fr P w K mg base 12 (He.ma K (He.ga K "Most") "__call__") ["self", "n"] [] (spMostCall K)) : Dn P w K mg base 14 "most" s_most ["setting", "n"] (spMost K) := by
  refine dn_of F (fun _ _ _ _ _ _ us hl => match us, hl with | [_, _], _ => rfl) sc_most (fun vs H Q E h => ?_) (fun fa cdv A outer s H vs Q E hr h => ?_)
  · obtain ⟨a, S, z, rfl, _⟩ := h
    rfl
  · obtain ⟨a, S, z, rfl, hS, ok, hz, ht, k⟩ := h
    refine ⟨_, PSs.nox (pss_one (ps_ret (pe_ci c_Most___call__ T.ca_mst hr (by decide) (pe_mk c_Most___init__ T.mk_mst T.gc_mst hr (by decide) rfl (pa_cons (pv 0) pa_nil)) (pa_cons (pv 1) pa_nil)))), ?_⟩
    refine w_start (σ := [some (.ref a), some (.int z)]) rfl ?_
    repeat walk_at "st"
    refine fun x dx hx hdx ne => ⟨x, dx, a, S, rfl, upd_same, hS.same (same_two hx hdx), rfl, ?_⟩
    repeat walk_at "st"
    refine ⟨⟨dx, _, upd_same⟩, x, S, z, rfl, ⟨dx, a, upd_same, hS.same (same_threeM hx hdx)⟩, ok, hz, ht, fun r H' hr h1 e => ?_⟩
    exact k r H' hr ((same_threeM hx hdx).trans e)
end

end Pt_most3
section Pt_mulg
/-! ### texts of letters joined; a text so many times -/
theorem joinL_nil : ∀ cs : List Nat, TL.joinL [] (cs.map fun c => [c]) = cs
  | [] => rfl
  | [c] => rfl
  | c :: d :: cs => by
    have ih := joinL_nil (d :: cs)
    show [c] ++ [] ++ TL.joinL [] ((d :: cs).map fun c => [c]) = c :: d :: cs
    rw [ih]
    rfl
theorem join_signs (cs : List Nat) : Txt.join (SX.S []) (cs.map fun c => (⟨#[c]⟩ : Str)) = SX.S cs := by
  have e : (cs.map fun c => (⟨#[c]⟩ : Str)) = (cs.map fun c => [c]).map SX.S := by
    rw [List.map_map]
    rfl
  rw [e, SX.join_S, joinL_nil]
theorem sum_ones (cs : List Nat) : ((cs.map fun c => (⟨#[c]⟩ : Str)).map (·.length)).sum = cs.length := by
  induction cs with
  | nil => rfl
  | cons c cs ih =>
    rw [List.map_cons, List.map_cons, List.sum_cons, ih, List.length_cons]
    show 1 + cs.length = cs.length + 1
    omega
def repW (n : Nat) (l : List Nat) : List Nat := (List.replicate n l).flatten
def rMulG : R2 := fun x y H Q => ∃ (l : List Nat) (n : Int), x = .str (SX.S l) ∧ y = .int n ∧ (0 ≤ n ∧ n ≤ 100000 ∧ l.length * n.toNat ≤ 1000000) ∧ Q (.str (SX.S (repW n.toNat l))) H
theorem rep_one (l : List Nat) : repW 1 l = l := by simp [repW]
theorem rep_nil (n : Nat) : repW n [] = [] := by simp [repW]
theorem rep_arr (a : Array Nat) : ∀ (m : Nat) (acc : Array Nat), ((List.replicate m a).foldl (· ++ ·) acc).toList = acc.toList ++ (List.replicate m a.toList).flatten
  | 0, acc => by simp
  | m + 1, acc => by
    rw [List.replicate_succ, List.foldl_cons, rep_arr a m, Array.toList_append, List.replicate_succ, List.flatten_cons, List.append_assoc]
theorem op_mulG {X : Cx} : OpR X (binaryOp .Mult) rMulG := by
  intro pins s σ H x y v u Q I rx ry h
  obtain ⟨l, n, rfl, rfl, ⟨h1, h2, h3⟩, q⟩ := h
  obtain ⟨t, rfl⟩ := rx
  obtain ⟨t', rfl⟩ := ry
  have sz := sizeLine_eq
  have hl : (SX.S l).length = l.length := sx_len l
  refine PySem.P.mul_str ?_ ?_ ?_ ?_
  · rw [decide_eq_false (by omega), decide_eq_false (by omega)]
    rfl
  · intro _ _ hgt
    rw [hl] at hgt
    have e3 : ((n.toNat : Nat) : Int) = n := Int.toNat_of_nonneg h1
    have e1 : (l.length : Int) * n ≤ 1000000 := by
      have e4 : ((l.length * n.toNat : Nat) : Int) ≤ ((1000000 : Nat) : Int) := Int.ofNat_le.mpr h3
      rw [Int.natCast_mul, e3] at e4
      exact e4
    have e5 : (l.length : Int) ≤ (2 ^ 63 - 1) / n := by
      rw [Int.le_ediv_iff_mul_le (by omega)]
      omega
    omega
  · intro _ _
    unfold PySem.Builtin.Str.tooLong
    rw [hl, decide_eq_false_iff_not]
    omega
  · by_cases n1 : n < 1
    · rw [if_pos n1]
      have e0 : n = 0 := by omega
      subst e0
      exact ⟨by decide, ⟨.str Str.empty, H, I.tok _, ⟨_, rfl⟩, q⟩⟩
    · rw [if_neg n1]
      by_cases n2 : (n == 1 || (SX.S l).length == 0) = true
      · rw [if_pos n2]
        have e : repW n.toNat l = l := by
          rw [Bool.or_eq_true, beq_iff_eq, beq_iff_eq, hl] at n2
          rcases n2 with rfl | n2
          · exact rep_one l
          · rw [List.length_eq_zero_iff.mp n2, rep_nil]
        rw [e] at q
        exact ⟨.str (SX.S l), H, I, ⟨t, rfl⟩, q⟩
      · rw [if_neg n2]
        have e : (⟨(List.replicate n.toNat (SX.S l).cps).foldl (· ++ ·) #[]⟩ : Str) = SX.S (repW n.toNat l) := by
          refine TL.ext_tl ?_
          show ((List.replicate n.toNat (SX.S l).cps).foldl (· ++ ·) #[]).toList = _
          rw [rep_arr]
          simp [SX.S, repW]
        rw [e]
        refine ⟨?_, ⟨.str _, H, I.tok _, ⟨_, rfl⟩, q⟩⟩
        show (SX.S (repW n.toNat l)).length ≤ sizeLine
        rw [sx_len]
        have : (repW n.toNat l).length = n.toNat * l.length := by simp [repW]
        rw [this, Nat.mul_comm]
        omega

end Pt_mulg
section Pt_worst0
/-! ### worst.py, plainly -/
/-- the level of the i-th of what stands level by level, c d the room of a level, and its index there -/
def lvlF (c : Nat → Int) : Nat → Nat → Int → Nat × Int
  | 0, d, i => (d, i)
  | f + 1, d, i => if i < c d then (d, i) else lvlF c f (d + 1) (i - c d)
def lvl (c : Nat → Int) (d : Nat) (i : Int) : Nat × Int := lvlF c i.toNat d i
theorem lvlF_fuel {c : Nat → Int} (hc : ∀ d, 1 ≤ c d) : ∀ (f : Nat) (d : Nat) (i : Int), i.toNat ≤ f → 0 ≤ i → lvlF c f d i = lvl c d i := by
  have key : ∀ (f g : Nat) (d : Nat) (i : Int), i.toNat ≤ f → i.toNat ≤ g → 0 ≤ i → lvlF c f d i = lvlF c g d i := by
    intro f
    induction f with
    | zero =>
      intro g d i h _ h0
      cases g with
      | zero => rfl
      | succ g =>
        have := hc d
        rw [lvlF, lvlF, if_pos (by omega)]
    | succ f ih =>
      intro g d i h1 h2 h0
      have := hc d
      cases g with
      | zero => rw [lvlF, lvlF, if_pos (by omega)]
      | succ g =>
        rw [lvlF, lvlF]
        by_cases h : i < c d
        · rw [if_pos h, if_pos h]
        · rw [if_neg h, if_neg h, ih g (d + 1) (i - c d) (by omega) (by omega) (by omega)]
  intro f d i h h0
  exact key f i.toNat d i h (Nat.le_refl _) h0
theorem lvl_in {c : Nat → Int} {d : Nat} {i : Int} (h : i < c d) : lvl c d i = (d, i) := by
  unfold lvl
  cases i.toNat with
  | zero => rfl
  | succ f => rw [lvlF, if_pos h]
theorem lvl_out {c : Nat → Int} (hc : ∀ d, 1 ≤ c d) {d : Nat} {i : Int} (h : c d ≤ i) : lvl c d i = lvl c (d + 1) (i - c d) := by
  have := hc d
  obtain ⟨f, hf⟩ : ∃ f, i.toNat = f + 1 := ⟨i.toNat - 1, by omega⟩
  rw [lvl, hf, lvlF, if_neg (by omega), lvlF_fuel hc f (d + 1) _ (by omega) (by omega)]
theorem lvl_ge {c : Nat → Int} (hc : ∀ d, 1 ≤ c d) : ∀ (n d : Nat) (i : Int), i.toNat ≤ n → 0 ≤ i → d ≤ (lvl c d i).1 ∧ 0 ≤ (lvl c d i).2 ∧ (lvl c d i).2 ≤ i ∧ (lvl c d i).2 < c (lvl c d i).1
  | n, d, i, hn, h0 => by
    by_cases h : i < c d
    · rw [lvl_in h]
      exact ⟨Nat.le_refl _, h0, Int.le_refl _, h⟩
    · have := hc d
      cases n with
      | zero => omega
      | succ n =>
        rw [lvl_out hc (by omega)]
        obtain ⟨a, b, e, g⟩ := lvl_ge hc n (d + 1) (i - c d) (by omega) (by omega)
        exact ⟨by omega, b, by omega, g⟩
theorem range_add' (a b : Nat) : List.range (a + b) = List.range a ++ (List.range b).map (a + ·) := by
  induction b with
  | zero => simp
  | succ b ih => rw [← Nat.add_assoc, List.range_succ, ih, List.range_succ, List.map_append, List.append_assoc]; rfl
theorem siz_lvl {c : Nat → Int} (hc : ∀ d, 1 ≤ c d) : ∀ (n d : Nat) (l : Int), l.toNat ≤ n → sizF c d l = (List.range l.toNat).map fun i : Nat => ((lvl c d i).1 : Int)
  | n, d, l, hn => by
    by_cases h : l ≤ 0
    · rw [sizF_nil h, show l.toNat = 0 by omega]
      rfl
    · have := hc d
      cases n with
      | zero => omega
      | succ n =>
        rw [sizF_cons hc (by omega), siz_lvl hc n (d + 1) _ (by omega), show l.toNat = (min (c d) l).toNat + (l - min (c d) l).toNat by omega, range_add', List.map_append, List.map_map]
        have e1 : (List.range (min (c d) l).toNat).map (fun i : Nat => ((lvl c d i).1 : Int)) = List.replicate (min (c d) l).toNat (d : Int) := by
          refine List.eq_replicate_iff.mpr ⟨by simp, fun x hx => ?_⟩
          obtain ⟨i, hi, rfl⟩ := List.mem_map.mp hx
          have := List.mem_range.mp hi
          rw [lvl_in (by omega)]
        have e2 : (List.range (l - min (c d) l).toNat).map (fun i : Nat => ((lvl c (d + 1) i).1 : Int)) = (List.range (l - min (c d) l).toNat).map ((fun i : Nat => ((lvl c d i).1 : Int)) ∘ fun x => (min (c d) l).toNat + x) := by
          refine List.map_congr_left fun i hi => ?_
          have := List.mem_range.mp hi
          show _ = ((lvl c d (((min (c d) l).toNat + i : Nat) : Int)).1 : Int)
          rw [lvl_out hc (i := (((min (c d) l).toNat + i : Nat) : Int)) (by omega), show (((min (c d) l).toNat + i : Nat) : Int) - c d = i by omega]
        rw [e1, e2]
/-- a number as so many letters, the least digit first -/
def dgtL (q : Nat) : Nat → Nat → List Nat
  | 0, _ => []
  | k + 1, n => (97 + n % q) :: dgtL q k (n / q)
def dgtW (q k n : Nat) : List Nat := (dgtL q k n).reverse
theorem dgt_len (q : Nat) : ∀ k n, (dgtL q k n).length = k
  | 0, _ => rfl
  | k + 1, n => by rw [dgtL, List.length_cons, dgt_len q k]
theorem dgt_end (q : Nat) : ∀ k n, dgtL q (k + 1) n = dgtL q k n ++ [97 + n / q ^ k % q]
  | 0, n => by rw [dgtL, dgtL, dgtL, Nat.pow_zero, Nat.div_one]; rfl
  | k + 1, n => by rw [dgtL, dgt_end q k (n / q), dgtL, List.cons_append, Nat.div_div_eq_div_mul, ← Nat.pow_succ']
theorem dgtW_len (q k n : Nat) : (dgtW q k n).length = k := by rw [dgtW, List.length_reverse, dgt_len]
theorem dgtW_succ (q k n : Nat) : dgtW q (k + 1) n = (97 + n / q ^ k % q) :: dgtW q k n := by rw [dgtW, dgt_end, List.reverse_append]; rfl
theorem dgt_mod (q : Nat) (hq : 1 ≤ q) : ∀ k n, dgtL q k (n % q ^ k) = dgtL q k n
  | 0, _ => rfl
  | k + 1, n => by
    rw [dgtL, dgtL, ← dgt_mod q hq k (n / q)]
    have e1 : n % q ^ (k + 1) % q = n % q := Nat.mod_mod_of_dvd _ ⟨q ^ k, by rw [Nat.pow_succ, Nat.mul_comm]⟩
    have e2 : n % q ^ (k + 1) / q = n / q % q ^ k := by rw [Nat.pow_succ, Nat.mul_comm, Nat.mod_mul_right_div_self]
    rw [e1, e2]
/-- the walk's letter at a place: the row of the letter at, and what is behind it -/
def plcO (q : Nat) : Nat → Nat → Nat → Nat
  | 0, at', _ => at'
  | f + 1, at', p => if p < 2 * (q - at') - 1 then (if p % 2 = 0 then at' + p / 2 else at') else plcO q f (at' + 1) (p - (2 * (q - at') - 1))
def plc (q p : Nat) : Nat := plcO q q 0 p
/-- so many letters stand ahead of the row of the letter at -/
def rowsB (q : Nat) : Nat → Nat
  | 0 => 0
  | k + 1 => rowsB q k + (2 * (q - k) - 1)
theorem rows_sq (q : Nat) : ∀ k, k ≤ q → rowsB q k + (q - k) * (q - k) = q * q
  | 0, _ => by simp [rowsB]
  | k + 1, h => by
    have i := rows_sq q k (by omega)
    obtain ⟨r, hr⟩ : ∃ r, q - k = r + 1 := ⟨q - k - 1, by omega⟩
    rw [rowsB, hr, show q - (k + 1) = r by omega]
    rw [hr] at i
    have : (r + 1) * (r + 1) = r * r + r + r + 1 := by rw [Nat.add_mul, Nat.mul_add, Nat.one_mul, Nat.mul_one]; omega
    omega
theorem plc_lt {q : Nat} : ∀ (f at' p : Nat), at' + f = q → at' < q → p < f * f → plcO q f at' p < q
  | 0, at', p, h, h1, hp => by omega
  | f + 1, at', p, h, h1, hp => by
    rw [plcO]
    split
    · split <;> omega
    · have e : (f + 1) * (f + 1) = f * f + f + f + 1 := by rw [Nat.add_mul, Nat.mul_add, Nat.one_mul, Nat.mul_one]; omega
      by_cases hf : f = 0
      · subst hf
        omega
      · exact plc_lt f (at' + 1) _ (by omega) (by omega) (by omega)

def capC (S : Sg) : Nat → Int := if kEq S.lk .short = true then capS (firstO S) S.q S.ln else freeC S
def spotO (S : Sg) (i : Int) : Int := if kEq S.lk .cleared = true then i % S.ln else i
def lvlS (S : Sg) (i : Int) : Nat × Int := lvl (capC S) 1 (spotO S i)
def tightB (S : Sg) : Bool := kEq S.lk .standing && decide (S.ln < (S.q : Int) * S.q)
/-- the word of a code of the worst text, as if the text went on; sp: the letters of the word that is spared -/
def wordO (S : Sg) (sp : Option Nat) (i : Nat) : List Nat :=
  if S.hid = true then
    if tightB S = true then [97 + plc S.q (if (i : Int) < S.ln then S.q * S.q - S.ln.toNat + i else 0)]
    else (97 + plc S.q (i % (S.q * S.q))) :: dgtW S.q ((lvlS S i).1 - 1) ((lvlS S i).2.toNat / (S.q * S.q))
  else match sp with
    | none => dgtW S.q (lvlS S i).1 (lvlS S i).2.toNat
    | some s => if S.ln ≤ (i : Int) then List.replicate s (97 + (S.q - 1)) else dgtW S.q (lvl (capB S.q s) 1 i).1 (lvl (capB S.q s) 1 i).2.toNat
def begO (S : Sg) (sp : Option Nat) (m : Int) : Int := match sp with
  | none => lenO S m
  | some s => sumF (capB S.q s) 1 (min m S.ln) + max 0 (m - S.ln) * s
structure SpOk (S : Sg) (sp : Option Nat) (m : Int) : Prop where
  none_ : S.lk = .standing → S.hid = false → sp = none → m ≤ S.ln
  loose : looseB S = true → m ≤ S.ln
  some_ : ∀ s, sp = some s → S.lk = .standing ∧ S.hid = false ∧ 1 ≤ s
theorem capC_pos {S : Sg} (ok : SgOk S) (d : Nat) : 1 ≤ capC S d := by
  have := first_pos ok
  have := ok.q1
  unfold capC
  split
  · exact capS_pos (by omega) (by omega) d
  · exact freeC_pos ok d
theorem sum_lvl {c : Nat → Int} (hc : ∀ d, 1 ≤ c d) (m : Nat) : ((List.range m).map fun i : Nat => ((lvl c 1 i).1 : Int)).sum = sumF c 1 m := by
  have := siz_lvl hc m 1 m (by omega)
  rw [show ((m : Int)).toNat = m by omega] at this
  rw [← this, sizF_sum hc]
theorem sum_ext {f g : Nat → Int} {m : Nat} (h : ∀ i, i < m → f i = g i) : ((List.range m).map f).sum = ((List.range m).map g).sum := by
  rw [List.map_congr_left fun i hi => h i (List.mem_range.mp hi)]
theorem sum_split (f : Nat → Int) (a b : Nat) : ((List.range (a + b)).map f).sum = ((List.range a).map f).sum + ((List.range b).map fun i => f (a + i)).sum := by
  rw [range_add', List.map_append, List.sum_append, List.map_map]
  rfl
theorem sum_mod (f : Nat → Int) {n : Nat} (hn : 1 ≤ n) : ∀ k m : Nat, m ≤ k → ((List.range m).map fun i => f (i % n)).sum = ((List.range n).map f).sum * ((m / n : Nat) : Int) + ((List.range (m % n)).map f).sum
  | k, m, hk => by
    by_cases h : m < n
    · rw [Nat.div_eq_of_lt h, Nat.mod_eq_of_lt h, sum_ext (g := f) fun i hi => by rw [Nat.mod_eq_of_lt (by omega)]]
      simp
    · cases k with
      | zero => omega
      | succ k =>
        have i := sum_mod f hn k (m - n) (by omega)
        obtain ⟨r, rfl⟩ : ∃ r, m = n + r := ⟨m - n, by omega⟩
        rw [show n + r - n = r by omega] at i
        rw [sum_split, sum_ext (m := n) (g := f) fun i hi => by rw [Nat.mod_eq_of_lt hi], sum_ext (m := r) (g := fun i => f (i % n)) fun i hi => by rw [Nat.add_mod_left], i, Nat.add_mod_left, Nat.add_div_left _ (by omega), show ((Nat.succ (r / n) : Nat) : Int) = ((r / n : Nat) : Int) + 1 from rfl, Int.mul_add]
        omega
theorem sum_one (m : Nat) : ((List.range m).map fun _ => (1 : Int)).sum = m := by
  induction m with
  | zero => rfl
  | succ m ih => rw [List.range_succ, List.map_append, List.sum_append, ih]; rfl
theorem sum_const (s : Int) (m : Nat) : ((List.range m).map fun _ => s).sum = m * s := by
  induction m with
  | zero => simp
  | succ m ih => rw [List.range_succ, List.map_append, List.sum_append, ih, show ((m + 1 : Nat) : Int) = (m : Int) + 1 from rfl, Int.add_mul]; simp
theorem wordO_len {S : Sg} (ok : SgOk S) (sp : Option Nat) (i : Nat) : ((wordO S sp i).length : Int) = if S.hid = true then (if tightB S = true then 1 else ((lvlS S i).1 : Int)) else match sp with
    | none => ((lvlS S i).1 : Int)
    | some s => if S.ln ≤ (i : Int) then (s : Int) else ((lvl (capB S.q s) 1 i).1 : Int) := by
  unfold wordO
  split
  · split
    · rfl
    · have s0 : 0 ≤ spotO S i := by
        unfold spotO
        split
        · rename_i h
          have lim := ok.lim
          have hk : S.lk = .cleared := by cases hk : S.lk <;> rw [hk] at h <;> first | rfl | cases h
          rw [hk] at lim
          have l1 : 1 ≤ S.ln := lim.1
          exact Int.emod_nonneg _ (by omega)
        · omega
      have := (lvl_ge (capC_pos ok) _ 1 (spotO S i) (Nat.le_refl _) s0).1
      rw [List.length_cons, dgtW_len]
      show ((((lvlS S i).1 - 1 + 1 : Nat)) : Int) = _
      have : 1 ≤ (lvlS S i).1 := this
      omega
  · cases sp with
    | none => exact congrArg _ (dgtW_len _ _ _)
    | some s =>
      show (((if S.ln ≤ (i : Int) then _ else _ : List Nat).length : Nat) : Int) = if _ then _ else _
      split
      · rw [List.length_replicate]
      · rw [dgtW_len]
theorem sum_begin {S : Sg} (ok : SgOk S) {sp : Option Nat} {m : Nat} (h : SpOk S sp m) : ((List.range m).map fun i => ((wordO S sp i).length : Int)).sum = begO S sp m := by
  have lim := ok.lim
  have q1 := ok.q1
  have f1 := first_pos ok
  have fp := freeC_pos ok
  have plain : S.lk ≠ .cleared → ((List.range m).map fun i : Nat => ((lvlS S i).1 : Int)).sum = sumF (capC S) 1 m := fun hk => by
    rw [← sum_lvl (capC_pos ok) m]
    refine sum_ext fun i hi => ?_
    have : spotO S i = i := by
      unfold spotO
      rw [if_neg fun z => hk (by cases hk : S.lk <;> rw [hk] at z <;> first | rfl | cases z)]
    unfold lvlS
    rw [this]
  have clr : S.lk = .cleared → ((List.range m).map fun i : Nat => ((lvlS S i).1 : Int)).sum = lenO S m := fun hk => by
    rw [hk] at lim
    have l1 : 1 ≤ S.ln := lim.1
    obtain ⟨n, en⟩ : ∃ n : Nat, S.ln = n := ⟨S.ln.toNat, by omega⟩
    rw [len_cleared ok hk (by omega)]
    have ec : capC S = freeC S := by unfold capC; rw [hk]; rfl
    have e := sum_mod (fun i => ((lvl (freeC S) 1 (i : Nat)).1 : Int)) (n := n) (by omega) m m (Nat.le_refl _)
    rw [sum_lvl fp, sum_lvl fp] at e
    rw [en, show ((m : Int) / n) = ((m / n : Nat) : Int) from rfl, show ((m : Int) % n) = ((m % n : Nat) : Int) from rfl, ← e]
    refine sum_ext fun i hi => ?_
    have : spotO S i = ((i % n : Nat) : Int) := by
      unfold spotO
      rw [hk]
      show (i : Int) % S.ln = _
      rw [en]
      rfl
    unfold lvlS
    rw [this, ec]
  cases sp with
  | some s =>
    obtain ⟨hk, hh, s1⟩ := h.some_ s rfl
    rw [hk] at lim
    have l0 : 0 ≤ S.ln := lim.1
    have bp := capB_pos (q := (S.q : Int)) (by omega) s1
    rw [sum_ext (g := fun i : Nat => if S.ln ≤ (i : Int) then (s : Int) else ((lvl (capB S.q s) 1 i).1 : Int)) fun i hi => by rw [wordO_len ok, hh, if_neg Bool.false_ne_true]]
    show _ = sumF (capB S.q s) 1 (min (m : Int) S.ln) + max 0 ((m : Int) - S.ln) * s
    by_cases c : (m : Int) ≤ S.ln
    · rw [show min (m : Int) S.ln = m by omega, show max 0 ((m : Int) - S.ln) = 0 by omega, Int.zero_mul, Int.add_zero, ← sum_lvl bp]
      exact sum_ext fun i hi => if_neg (by omega)
    · obtain ⟨n, en⟩ : ∃ n : Nat, S.ln = n := ⟨S.ln.toNat, by omega⟩
      obtain ⟨r, rfl⟩ : ∃ r, m = n + r := ⟨m - n, by omega⟩
      rw [en, show min ((n + r : Nat) : Int) n = n by omega, show max 0 (((n + r : Nat) : Int) - n) = r by omega, sum_split, ← sum_lvl bp, ← sum_const]
      congr 1
      · exact sum_ext fun i hi => if_neg (by omega)
      · exact sum_ext fun i hi => if_pos (by omega)
  | none =>
    show _ = lenO S m
    by_cases hh : S.hid = true
    · by_cases ht : tightB S = true
      · rw [sum_ext (g := fun _ => 1) fun i hi => by rw [wordO_len ok, if_pos hh, if_pos ht], sum_one]
        have hk : S.lk = .standing := by
          unfold tightB at ht
          cases hk : S.lk <;> rw [hk] at ht <;> first | rfl | cases ht
        have hl : S.ln < (S.q : Int) * S.q := by
          unfold tightB at ht
          exact of_decide_eq_true (Bool.and_eq_true_iff.mp ht).2
        have ef : firstO S = (S.q : Int) * S.q := by unfold firstO; rw [if_pos hh]
        unfold lenO cntO
        rw [hk]
        show _ = letO 1 (if (m : Int) ≤ S.ln then _ else if S.hid = true then _ else _)
        by_cases c : (m : Int) ≤ S.ln
        · rw [if_pos c]
          have := sumF_in fp (d := 1) (l := m) (by omega) (by rw [freeC_one]; omega)
          have : letO 1 (fill (freeC S) 1 m) = ((1 : Nat) : Int) * m := this
          omega
        · rw [if_neg c, if_pos hh]
          show _ = ((1 : Nat) : Int) * m + 0
          omega
      · rw [sum_ext (g := fun i : Nat => ((lvlS S i).1 : Int)) fun i hi => by rw [wordO_len ok, if_pos hh, if_neg ht]]
        by_cases hc : S.lk = .cleared
        · exact clr hc
        · rw [plain hc]
          unfold lenO cntO capC
          cases hk : S.lk with
          | free => rfl
          | short => rfl
          | cleared => exact absurd hk hc
          | standing =>
            have ef : firstO S = (S.q : Int) * S.q := by unfold firstO; rw [if_pos hh]
            have : looseB S = true := by
              unfold looseB
              unfold tightB at ht
              rw [hk] at ht ⊢
              have : ¬ S.ln < (S.q : Int) * S.q := fun z => ht (by rw [decide_eq_true z]; rfl)
              rw [hh, decide_eq_true (by omega)]
              rfl
            show _ = letO 1 (if (m : Int) ≤ S.ln then _ else _)
            rw [if_pos (h.loose this)]
            rfl
    · have hf : S.hid = false := by cases e : S.hid with | true => exact absurd e hh | false => rfl
      rw [sum_ext (g := fun i : Nat => ((lvlS S i).1 : Int)) fun i hi => by rw [wordO_len ok, if_neg hh]]
      by_cases hc : S.lk = .cleared
      · exact clr hc
      · rw [plain hc]
        unfold lenO cntO capC
        cases hk : S.lk with
        | free => rfl
        | short => rfl
        | cleared => exact absurd hk hc
        | standing =>
          show _ = letO 1 (if (m : Int) ≤ S.ln then _ else _)
          rw [if_pos (h.none_ hk hf rfl)]
          rfl
def spO (S : Sg) (r : Int) : Option Nat := if (!S.hid && (kEq S.lk .standing && decide (S.ln + 1 < r))) = true then some (spF S (r - 1)) else none
theorem spO_ok {S : Sg} {r : Int} (hl : looseB S = true → r ≤ S.ln + 1) : SpOk S (spO S r) (r - 1) := by
  refine ⟨fun hk hh h => ?_, fun h => by have := hl h; omega, fun s h => ?_⟩
  · unfold spO at h
    rw [hk, hh] at h
    by_cases c : S.ln + 1 < r
    · rw [decide_eq_true c] at h
      cases h
    · omega
  · unfold spO at h
    split at h
    · rename_i c
      injection h with h
      rw [← h]
      obtain ⟨c1, c2⟩ := Bool.and_eq_true_iff.mp c
      obtain ⟨c2, c3⟩ := Bool.and_eq_true_iff.mp c2
      refine ⟨?_, ?_, (fmin_spec (costO S (r - 1)) (deepO S) (by unfold deepO; omega)).1⟩
      · cases hk : S.lk <;> rw [hk] at c2 <;> first | rfl | cases c2
      · cases e : S.hid with
        | true => rw [e] at c1; cases c1
        | false => rfl
    · cases h
theorem beg_len {S : Sg} (ok : SgOk S) {r : Int} (h1 : 1 ≤ r) : begO S (spO S r) (r - 1) = lenO S (r - 1) := by
  unfold spO
  split
  · rename_i c
    obtain ⟨c1, c2⟩ := Bool.and_eq_true_iff.mp c
    obtain ⟨c2, c3⟩ := Bool.and_eq_true_iff.mp c2
    have c3 := of_decide_eq_true c3
    have hk : S.lk = .standing := by cases hk : S.lk <;> rw [hk] at c2 <;> first | rfl | cases c2
    have hh : S.hid = false := by
      cases e : S.hid with
      | true => rw [e] at c1; cases c1
      | false => rfl
    have s1 := (fmin_spec (costO S (r - 1)) (deepO S) (by unfold deepO; omega)).1
    have e : lenO S (r - 1) = costO S (r - 1) (spF S (r - 1)) := by
      unfold lenO cntO
      rw [hk]
      show letO 1 (if r - 1 ≤ S.ln then _ else if S.hid = true then _ else _) = _
      rw [if_neg (by omega), if_neg (by rw [hh]; exact Bool.false_ne_true)]
      rfl
    rw [e, cost_eq (spF S (r - 1)) s1]
    show sumF (capB S.q (spF S (r - 1))) 1 (min (r - 1) S.ln) + max 0 (r - 1 - S.ln) * ((spF S (r - 1) : Nat) : Int) = _
    rw [show min (r - 1) S.ln = S.ln by omega, show max 0 (r - 1 - S.ln) = r - 1 - S.ln by omega, Int.mul_comm]
  · rfl
theorem flat_ext {f g : Nat → List Nat} : ∀ {L : List Nat}, (∀ i ∈ L, f i = g i) → L.flatMap f = L.flatMap g
  | [], _ => rfl
  | i :: L, h => by rw [List.flatMap_cons, List.flatMap_cons, h i List.mem_cons_self, flat_ext fun j hj => h j (List.mem_cons_of_mem _ hj)]
/-- the worst text of n letters, of r codes -/
def worstL (S : Sg) (n r : Int) : List Nat := ((List.range r.toNat).flatMap (wordO S (spO S r))).take n.toNat
/-- the word of a code, cut at the end of the text -/
def codeO (S : Sg) (n r : Int) (i : Nat) : List Nat := if (i : Int) + 1 < r then wordO S (spO S r) i else (wordO S (spO S r) i).take (n - begO S (spO S r) i).toNat
theorem flat_len (f : Nat → List Nat) (m : Nat) : ((((List.range m).flatMap f).length : Nat) : Int) = ((List.range m).map fun i => ((f i).length : Int)).sum := by
  induction m with
  | zero => rfl
  | succ m ih =>
    rw [List.range_succ, List.flatMap_append, List.map_append, List.length_append, List.sum_append, ← ih]
    simp
theorem code_join {S : Sg} (ok : SgOk S) {n r : Int} (h : MostR S n r) : (List.range r.toNat).flatMap (codeO S n r) = worstL S n r := by
  obtain ⟨r0, hl, hle, _⟩ := h
  unfold worstL
  by_cases z : r = 0
  · subst z
    simp
  · obtain ⟨k, hk⟩ : ∃ k : Nat, r = k + 1 := ⟨r.toNat - 1, by omega⟩
    have b := beg_len ok (r := r) (by omega)
    have e0 : leastO S r = lenO S (r - 1) + 1 := if_neg z
    have sk := spO_ok hl
    rw [show r - 1 = (k : Int) by omega] at b e0 sk
    have sb := sum_begin ok sk
    rw [show r.toNat = k + 1 by omega, List.range_succ, List.flatMap_append, List.flatMap_append, List.take_append]
    have e1 : (List.range k).flatMap (codeO S n r) = (List.range k).flatMap (wordO S (spO S r)) := by
      refine flat_ext fun i hi => ?_
      have := List.mem_range.mp hi
      unfold codeO
      rw [if_pos (by omega)]
    have len : ((((List.range k).flatMap (wordO S (spO S r))).length : Nat) : Int) = lenO S k := by rw [flat_len, sb, b]
    rw [e1, List.take_of_length_le (by omega)]
    congr 1
    rw [List.flatMap_singleton, List.flatMap_singleton]
    unfold codeO
    rw [if_neg (by omega), show (n - begO S (spO S r) (k : Int)).toNat = n.toNat - ((List.range k).flatMap (wordO S (spO S r))).length by omega]

end Pt_worst0
section Pt_worst1
/-! ### worst.py: letters of the walk, digits, levels -/
def spPlace : Sp := fun vs H Q _ => ∃ q p : Nat, vs = [.int q, .int p] ∧ 2 ≤ q ∧ q ≤ 26 ∧ p < q * q ∧ Q (.int (plc q p : Nat)) H
def spDigits : Sp := fun vs H Q _ => ∃ q n k : Nat, vs = [.int q, .int n, .int k] ∧ 2 ≤ q ∧ q ≤ 26 ∧ k ≤ 10000 ∧ ∀ H', Same H H' → Q (.str (SX.S (dgtW q k n))) H'
def capD (a q : Int) : Option Int → Nat → Int
  | none => capG a q
  | some n => capS a q n
def spLevelOf : Sp := fun vs H Q _ => ∃ (a : Int) (q : Nat) (i : Int) (dp : Option Int), vs = [.int a, .int q, .int i, deepV dp] ∧ 1 ≤ a ∧ 2 ≤ q ∧ q ≤ 26 ∧ 0 ≤ i ∧ Big31 i ∧ ∀ t, H t = none → Q (.ref t) (upd H t (.tup [.int ((lvl (capD a q dp) 1 i).1 : Nat), .int (lvl (capD a q dp) 1 i).2]))
def spSparedL : Sp := fun vs H Q _ => ∃ (q : Nat) (i : Int) (s : Nat), vs = [.int q, .int i, .int s] ∧ 2 ≤ q ∧ q ≤ 26 ∧ 1 ≤ s ∧ 0 ≤ i ∧ ∀ t, H t = none → Q (.ref t) (upd H t (.tup [.int ((lvl (capB q s) 1 i).1 : Nat), .int (lvl (capB q s) 1 i).2]))
theorem w_sgn {H : Hp} {Q : VK} {i : Int} {n : Nat} (e : i = n) (h : n < 26) (q : Q (.str (SX.S [97 + n])) H) : rIxS (.str "abcdefghijklmnopqrstuvwxyz") (.int i) H Q := by
  refine ⟨_, _, 97 + n, rfl, rfl, by decide +kernel, ?_, q⟩
  subst e
  have : ∀ n, n < 26 → atI ("abcdefghijklmnopqrstuvwxyz" : Str).cps.toList ((n : Nat) : Int) = some (97 + n) := by decide +kernel
  exact this n h
theorem iop_mulA {X : Cx} : OpR X (inplaceOp .Mult) (rI CMulA fun i j => .int (i * j)) := opI fun _ _ _ _ _ _ _ hc q => imul_int q (hc.elim (fun h => h.ok) fun h => h.ok)
theorem w_m1 {r : V → List V → Hp → VK → Prop} {to te : TE} {σ : L2.St} {H : Hp} {Q : VK} (q : to σ H fun x H1 => (∃ a, x = .str a) ∧ te σ H1 fun y H2 => r x [y] H2 Q) : tM1 r to te σ H Q := q
theorem w_appS {H : Hp} {Q : VK} {a : Addr} {L : List V} {v : V} (h : H a = some (.lst L)) (l : L.length < sizeLine) (q : Q .non (upd H a (.lst (L ++ [v])))) : rAppend (.ref a) [v] H Q := ⟨a, L, v, rfl, rfl, h, l, q⟩
set_option hygiene false in
local macro_rules | `(tactic| walk_at "st") => `(tactic| (with_reducible first | refine w_m1 ?_ | refine w_revL ?_ | refine w_seqP3 ?_ | refine w_par3 ?_))
local macro_rules | `(tactic| walk_at "cond") => `(tactic| first | (refine small_mul ?_ ?_ <;> omega) | (refine small_mul' ?_ ?_ <;> omega) | (refine small_div ?_ ?_ <;> omega))
section
variable {P : Program} {w : World} {K : PySem.W.Frag} {mg : Str → Option Value} {base : Heap}
theorem d_place_letter (T : Txt K mg) (F : FD K mg "place_letter" s_place_letter) : Dn P w K mg base 1 "place_letter" s_place_letter ["letters", "place"] (spPlace) := by
  refine dn_of F (fun _ _ _ _ _ _ us hl => match us, hl with | [_, _], _ => rfl) sc_place_letter (fun vs H Q E h => ?_) (fun fa cdv A outer s H vs Q E hr h => ?_)
  · obtain ⟨q, p, rfl, _⟩ := h
    rfl
  · obtain ⟨q, p, rfl, q1, q2, hp, k⟩ := h
    refine ⟨_, PSs.nox (pss_cons (ps_set (i := 2) sc_place_letter.nd rfl (Or.inl rfl) pe_int)
 (pss_cons (ps_while PassesOwn.never (pt_cmpR op_ge (pv 1) (pe_op op_sub (pe_op op_mulA pe_int (pe_op op_sub (pv 0) (pv 2))) pe_int) (nomark _))
 (pss_cons (ps_aug (i := 1) sc_place_letter.nd rfl (Or.inl rfl) (pe_op op_sub (pe_op op_mulA pe_int (pe_op op_sub (pv 0) (pv 2))) pe_int) iop_sub)
 (pss_one (ps_aug (i := 2) sc_place_letter.nd rfl (Or.inl rfl) pe_int iop_add))))
 (pss_one (ps_ret (pe_ifExp (pt_cmpR op_eq (pe_op op_mod (pv 1) pe_int) pe_int (nomark _)) (pe_op op_add (pv 2) (pe_op op_fdivW (pv 1) pe_int)) (pv 2)))))), ?_⟩
    refine w_start (σ := [some (.int q), some (.int p), none]) rfl ?_
    repeat walk_at "st"
    with_reducible refine w_seq ?_
    refine ⟨fun t σ' H' => ∃ f a r : Nat, σ' = [some (.int q), some (.int r), some (.int a)] ∧ t = f ∧ H' = H ∧ a + f = q ∧ r < f * f ∧ plcO q f a r = plc q p, ⟨_, q, 0, p, rfl, rfl, rfl, by omega, hp, rfl⟩, ?_⟩
    rintro t σ' H' ⟨f, a, r, rfl, rfl, rfl, haf, hr', hpl⟩
    repeat walk_at "st"
    obtain ⟨f, rfl⟩ : ∃ f, t = f + 1 := ⟨t - 1, by
      rcases Nat.eq_zero_or_pos t with z | z
      · rw [z] at hr'
        omega
      · omega⟩
    rw [plcO] at hpl
    refine w_ite (fun h1 => ?_) (fun h1 => ?_)
    · rw [if_neg (by omega)] at hpl
      have e2 : (f + 1) * (f + 1) = f * f + f + f + 1 := by rw [Nat.add_mul, Nat.mul_add, Nat.one_mul, Nat.mul_one]; omega
      refine ⟨fun σ2 H2 => σ2 = [some (.int q), some (.int (r - (2 * ((q : Int) - a) - 1))), some (.int ((a : Int) + 1))] ∧ H2 = H', ?_, ?_⟩
      · rintro σ2 H2 ⟨rfl, rfl⟩
        refine ⟨f, by omega, f, a + 1, r - (2 * (q - a) - 1), ?_, rfl, rfl, by omega, by omega, hpl⟩
        rw [show ((r : Int) - (2 * ((q : Int) - a) - 1)) = ((r - (2 * (q - a) - 1) : Nat) : Int) by omega]
        rfl
      · repeat walk_at "st"
        exact ⟨rfl, rfl⟩
    · rw [if_pos (by omega)] at hpl
      repeat walk_at "st"
      refine w_ite (fun h2 => ?_) (fun h2 => ?_)
      · have h2 : (r : Int) % 2 = 0 := by injection h2
        rw [if_pos (by omega)] at hpl
        repeat walk_at "st"
        rw [show (a : Int) + (r : Int) / 2 = ((a + r / 2 : Nat) : Int) by omega, hpl]
        exact k
      · have h2 : ¬ (r : Int) % 2 = 0 := fun z => h2 (by rw [z])
        rw [if_neg (by omega)] at hpl
        repeat walk_at "st"
        rw [hpl]
        exact k
theorem d_digits_of (T : Txt K mg) (F : FD K mg "digits_of" s_digits_of) : Dn P w K mg base 1 "digits_of" s_digits_of ["letters", "number", "size"] (spDigits) := by
  refine dn_of F (fun _ _ _ _ _ _ us hl => match us, hl with | [_, _, _], _ => rfl) sc_digits_of (fun vs H Q E h => ?_) (fun fa cdv A outer s H vs Q E hr h => ?_)
  · obtain ⟨q, n, k, rfl, _⟩ := h
    rfl
  · obtain ⟨q, n, k, rfl, q1, q2, hk, K1⟩ := h
    refine ⟨_, PSs.nox (pss_cons (ps_set (i := 3) sc_digits_of.nd rfl (Or.inl rfl) (pe_lst pa_nil))
 (pss_cons (ps_for PassesOwn.never rfl (pi_range1 rfl T.n_range (pa_cons (pv 2) pa_nil)) (pg_name (i := 4) sc_digits_of.nd rfl (Or.inl rfl))
 (pss_cons (ps_expr (pe_bm PySem.F.plainAttrs_list PySem.F.slot_list_append PySem.F.type_list_append mt_append (pv 3) (pa_cons (pe_ix ix_str (pe_gv rfl T.g_SIGNS) (pe_op op_mod (pv 1) (pv 0)) (fun _ _ => rfl)) pa_nil)))
 (pss_one (ps_aug (i := 1) sc_digits_of.nd rfl (Or.inl rfl) (pv 0) iop_fdivW))))
 (pss_one (ps_ret (pe_join pe_str (pe_revL (pv 3))))))), ?_⟩
    refine w_start (σ := [some (.int q), some (.int n), some (.int k), none, none]) rfl ?_
    have sz := sizeLine_eq
    repeat walk_at "st"
    refine ⟨by walk_at "len", fun fo hfo => ?_⟩
    repeat walk_at "st"
    with_reducible refine w_seq ?_
    repeat walk_at "st"
    refine L2.for_range (fun i σ' H' => ∃ o, σ' = [some (.int q), some (.int (n / q ^ i : Nat)), some (.int k), some (.ref fo), o] ∧ Same H H' ∧ H' fo = some (.lst ((dgtL q i n).map fun c => .str ⟨#[c]⟩))) ⟨none, by rw [Nat.pow_zero, Nat.div_one], same_new hfo (Same.refl H), upd_same⟩ ?_ ?_
    · rintro i σ' H' hi ⟨o, rfl, e, hF⟩
      have hi : i < k := by omega
      have pos : 0 < q ^ i := Nat.pow_pos (by omega)
      repeat walk_at "st"
      refine w_sgn (n := n / q ^ i % q) rfl (Nat.lt_of_lt_of_le (Nat.mod_lt _ (by omega)) q2) ?_
      repeat walk_at "st"
      refine w_appS hF (by rw [List.length_map, dgt_len]; omega) ?_
      repeat walk_at "st"
      refine ⟨_, by rw [show ((n / q ^ i : Nat) : Int) / (q : Int) = ((n / q ^ (i + 1) : Nat) : Int) by rw [Nat.pow_succ, ← Nat.div_div_eq_div_mul]; rfl], same_put hfo e, ?_⟩
      rw [upd_same, dgt_end, List.map_append]
      rfl
    · rintro σ' H' ⟨o, rfl, e, hF⟩
      have hk' : ((k : Int)).toNat = k := by omega
      rw [hk'] at hF
      repeat walk_at "st"
      refine ⟨⟨_, rfl⟩, ?_⟩
      repeat walk_at "st"
      refine ⟨fo, _, rfl, SqL.of hF, fun p hp => ?_⟩
      rw [← List.map_reverse]
      refine ⟨SX.S [], p, (dgtW q k n).map fun c => (⟨#[c]⟩ : Str), rfl, rfl, .inl (SqL.of (by rw [upd_same, List.map_map]; rfl)), ?_, ?_⟩
      · rw [sum_ones, List.length_map, dgtW_len, sx_len]
        show k + k * 0 ≤ _
        omega
      · rw [join_signs]
        exact K1 _ (same_new (same_free e hp) e)
theorem len_level_of : ∀ vs H Q E, spLevelOf vs H Q E → vs.length = 4 := by
  rintro vs H Q E ⟨a, q, i, dp, rfl, _⟩
  rfl
theorem b_level_of (T : Txt K mg) : BodyOk P w K mg base 0 "level_of" s_level_of ["first", "letters", "at", "deepest", "size", "depth"] spLevelOf := by
  refine fun fa cdv A outer s H vs Q E hr h => ?_
  obtain ⟨a, q, i, dp, rfl, a1, q1, q2, i0, hi, k⟩ := h
  refine ⟨_, PSs.nox (pss_cons (ps_par (i := 4) (j := 5) (by rfl) sc_level_of.nd rfl rfl (by decide) rfl rfl (pa_cons (pv 0) (pa_cons pe_int pa_nil)) (by rfl))
 (pss_cons (ps_while PassesOwn.never (PW.pt (pw_and (pt_cmpR op_ge (pv 2) (pv 4) (nomark _)) (pw_and1 (pt_cmpR op_ne (pv 5) (pv 3) (nomark _)))))
 (pss_cons (ps_aug (i := 2) sc_level_of.nd rfl (Or.inl rfl) (pv 4) iop_sub)
 (pss_cons (ps_aug (i := 4) sc_level_of.nd rfl (Or.inl rfl) (pv 1) iop_mulA)
 (pss_one (ps_aug (i := 5) sc_level_of.nd rfl (Or.inl rfl) pe_int iop_add)))))
 (pss_one (ps_ret (pe_tup (pa_cons (pv 5) (pa_cons (pv 2) pa_nil))))))), ?_⟩
  refine w_start (σ := [some (.int a), some (.int q), some (.int i), some (deepV dp), none, none]) rfl ?_
  repeat walk_at "st"
  with_reducible refine w_seq ?_
  have hc : ∀ d, 1 ≤ capD a q dp d := fun d => by
    cases dp with
    | none => exact capG_pos (by omega) (by omega) d
    | some n => exact capS_pos (by omega) (by omega) d
  refine ⟨fun t σ' H' => ∃ (d : Nat) (j : Int), σ' = [some (.int a), some (.int q), some (.int j), some (deepV dp), some (.int (capG a q d)), some (.int (d : Nat))] ∧ t = j.toNat ∧ H' = H ∧ 1 ≤ d ∧ 0 ≤ j ∧ j ≤ i ∧ lvl (capD a q dp) d j = lvl (capD a q dp) 1 i,
    ⟨_, 1, i, by show _ = [_, _, _, _, some (V.int (a * (q : Int) ^ 0)), _]; rw [Int.pow_zero, Int.mul_one]; rfl, rfl, rfl, Nat.le_refl _, i0, Int.le_refl _, rfl⟩, ?_⟩
  rintro t σ' H' ⟨d, j, rfl, rfl, rfl, d1, j0, ji, hl⟩
  repeat walk_at "st"
  have fin : j < capD a q dp d → ∀ t, H' t = none → Q (.ref t) (upd H' t (.tup [.int (d : Nat), .int j])) := fun c => by
    rw [← hl, lvl_in c] at k
    exact k
  have go : capD a q dp d = capG a q d → capG a q d ≤ j → ∃ m', m' < j.toNat ∧ ∃ (d' : Nat) (j' : Int), ([some (.int a), some (.int q), some (.int (j - capG a q d)), some (deepV dp), some (.int (capG a q d * q)), some (.int ((d : Int) + 1))] : L2.St) = [some (.int a), some (.int q), some (.int j'), some (deepV dp), some (.int (capG a q d')), some (.int (d' : Nat))] ∧ m' = j'.toNat ∧ H' = H' ∧ 1 ≤ d' ∧ 0 ≤ j' ∧ j' ≤ i ∧ lvl (capD a q dp) d' j' = lvl (capD a q dp) 1 i := fun c h => by
    have := hc d
    refine ⟨_, ?_, d + 1, j - capG a q d, ?_, rfl, rfl, by omega, by omega, by omega, ?_⟩
    · omega
    · rw [show capG a q (d + 1) = capG a q d * q by
        unfold capG
        obtain ⟨e, rfl⟩ : ∃ e, d = e + 1 := ⟨d - 1, by omega⟩
        rw [show e + 1 + 1 - 1 = e + 1 by omega, show e + 1 - 1 = e by omega, Int.pow_succ, Int.mul_assoc]]
      rfl
    · rw [← hl, lvl_out hc (d := d) (i := j) (by omega), c]
  refine w_ite (fun h1 => ?_) (fun h1 => ?_)
  · repeat walk_at "st"
    refine ⟨by cases dp <;> rfl, ?_⟩
    refine ⟨_, rfl, ?_⟩
    rw [intD d dp]
    rcases Decidable.em (some (d : Int) = dp) with h2 | h2
    · refine w_iteF (by rw [decide_eq_true h2]; rfl) ?_
      repeat walk_at "st"
      refine ⟨by walk_at "len", fin ?_⟩
      subst h2
      have hi : i ≤ 10000000000000000000000000000000 := hi
      have e3 : capD a q (some (d : Int)) d = big40 := by
        show capS a q d d = _
        unfold capS
        rw [if_pos rfl]
      have : big40 = 10000000000000000000000000000000000000000 := rfl
      omega
    · refine w_iteT (by rw [decide_eq_false h2]; rfl) ?_
      have c : capD a q dp d = capG a q d := by
        cases dp with
        | none => rfl
        | some n =>
          show capS a q n d = _
          unfold capS
          rw [if_neg fun z => h2 (by rw [z])]
      refine ⟨fun σ2 H2 => σ2 = [some (.int a), some (.int q), some (.int (j - capG a q d)), some (deepV dp), some (.int (capG a q d * q)), some (.int ((d : Int) + 1))] ∧ H2 = H', ?_, ?_⟩
      · rintro σ2 H2 ⟨rfl, rfl⟩
        exact go c h1
      · repeat walk_at "st"
        exact ⟨rfl, rfl⟩
  · have h1 : j < capG a q d := by omega
    repeat walk_at "st"
    refine ⟨by walk_at "len", fin ?_⟩
    cases dp with
    | none => exact h1
    | some n =>
      show j < capS a q n d
      unfold capS
      split
      · have hi : i ≤ 10000000000000000000000000000000 := hi
        have : big40 = 10000000000000000000000000000000000000000 := rfl
        omega
      · exact h1
theorem level_of4 (T : Txt K mg) {f : Addr} (F : FA K "level_of" "level_of" s_level_of [.non] f) : Fr P w K mg base (0 + 1) f ["first", "letters", "at", "deepest"] [] spLevelOf :=
  fr_ofD 4 1 F (by simp) rfl (fun _ _ _ _ _ _ _ us its h1 h2 => match us, its, h1, h2 with | [_, _, _, _], [_], _, _ => ⟨_, rfl, rfl⟩) sc_level_of len_level_of (b_level_of T)
theorem d_spared_level (T : Txt K mg) (F : FD K mg "spared_level" s_spared_level) : Dn P w K mg base 1 "spared_level" s_spared_level ["letters", "at", "spared"] (spSparedL) := by
  refine dn_of F (fun _ _ _ _ _ _ us hl => match us, hl with | [_, _, _], _ => rfl) sc_spared_level (fun vs H Q E h => ?_) (fun fa cdv A outer s H vs Q E hr h => ?_)
  · obtain ⟨q, i, s, rfl, _⟩ := h
    rfl
  · obtain ⟨q, i, s, rfl, q1, q2, s1, i0, k⟩ := h
    refine ⟨_, PSs.nox (pss_cons (ps_par3 (i := 3) (j := 4) (l := 5) (by rfl) sc_spared_level.nd rfl rfl rfl (by decide) (by decide) (by decide) rfl rfl rfl (pa_cons (pv 0) (pa_cons pe_int (pa_cons pe_int pa_nil))) (by rfl))
 (pss_cons (ps_set (i := 4) sc_spared_level.nd rfl (Or.inl rfl) (pe_ifExp (pt_cmpR op_eq (pv 2) pe_int (nomark _)) pe_int pe_int))
 (pss_cons (ps_while PassesOwn.never (pt_cmpR op_ge (pv 1) (pe_op op_sub (pv 3) (pv 4)) (nomark _))
 (pss_cons (ps_aug (i := 1) sc_spared_level.nd rfl (Or.inl rfl) (pe_op op_sub (pv 3) (pv 4)) iop_sub)
 (pss_cons (ps_aug (i := 3) sc_spared_level.nd rfl (Or.inl rfl) (pv 0) iop_mulA)
 (pss_cons (ps_aug (i := 4) sc_spared_level.nd rfl (Or.inl rfl) (pv 0) iop_mulA)
 (pss_cons (ps_aug (i := 5) sc_spared_level.nd rfl (Or.inl rfl) pe_int iop_add)
 (pss_one (ps_set (i := 4) sc_spared_level.nd rfl (Or.inl rfl) (pe_ifExp (pt_cmpR op_eq (pv 5) (pv 2) (nomark _)) pe_int (pv 4)))))))))
 (pss_one (ps_ret (pe_tup (pa_cons (pv 5) (pa_cons (pv 1) pa_nil)))))))), ?_⟩
    refine w_start (σ := [some (.int q), some (.int i), some (.int s), none, none, none]) rfl ?_
    have hc := capB_pos (q := (q : Int)) (by omega) s1
    have lost : ∀ (d : Nat) (x : Int), 1 ≤ d → x = (if s ≤ d - 1 then (q : Int) ^ (d - s) else 0) → (if d = s then 1 else x) = (if s ≤ d then (q : Int) ^ (d - s) else 0) := fun d x d1 hx => by
      subst hx
      by_cases z : d = s
      · rw [if_pos z, if_pos (by omega), z, Nat.sub_self, Int.pow_zero]
      · rw [if_neg z]
        by_cases z2 : s ≤ d - 1
        · rw [if_pos z2, if_pos (by omega)]
        · rw [if_neg z2, if_neg (by omega)]
    have main : ∀ l0 : Int, l0 = (if s ≤ 1 then (q : Int) ^ (1 - s) else 0) → tSeq (tWhile
                  (tTest
                    (tOp (rI0 fun i j => V.bl (decide (j ≤ i))) (tVar 1)
                      (tOp (rI0 fun i j => V.int (i - j)) (tVar 3) (tVar 4))))
                  (tSeq (tAug 1 (tOp (rI0 fun i j => V.int (i - j)) (tVar 3) (tVar 4)) (rI0 fun i j => V.int (i - j)))
                    (tSeq (tAug 3 (tVar 0) (rI CMulA fun i j => V.int (i * j)))
                      (tSeq (tAug 4 (tVar 0) (rI CMulA fun i j => V.int (i * j)))
                        (tSeq (tAug 5 (tC (V.int 1)) (rI0 fun i j => V.int (i + j)))
                          (tAsg (tIf (tTest (tOp rEq (tVar 5) (tVar 2))) (tC (V.int 1)) (tVar 4)) (gName 4)))))))
                (tRet (tTup (tCons (tVar 5) (tCons (tVar 1) tNil)))) { nx := fun x H' => Q V.non H', rt := Q } [some (.int q), some (.int i), some (.int s), some (.int q), some (.int l0), some (.int 1)] H := by
      rintro l0 rfl
      with_reducible refine w_seq ?_
      refine ⟨fun t σ' H' => ∃ (d : Nat) (j : Int), σ' = [some (.int q), some (.int j), some (.int s), some (.int ((q : Int) ^ d)), some (.int (if s ≤ d then (q : Int) ^ (d - s) else 0)), some (.int (d : Nat))] ∧ t = j.toNat ∧ H' = H ∧ 1 ≤ d ∧ 0 ≤ j ∧ lvl (capB q s) d j = lvl (capB q s) 1 i,
        ⟨_, 1, i, by rw [Int.pow_succ, Int.pow_zero, Int.one_mul]; rfl, rfl, rfl, Nat.le_refl _, i0, rfl⟩, ?_⟩
      rintro t σ' H' ⟨d, j, rfl, rfl, rfl, d1, j0, hl⟩
      have cd : capB q s d = (q : Int) ^ d - (if s ≤ d then (q : Int) ^ (d - s) else 0) := rfl
      repeat walk_at "st"
      refine w_ite (fun h1 => ?_) (fun h1 => ?_)
      · rw [← cd] at h1
        have := hc d
        refine ⟨fun σ2 H2 => σ2 = [some (.int q), some (.int (j - capB q s d)), some (.int s), some (.int ((q : Int) ^ (d + 1))), some (.int (if s ≤ d + 1 then (q : Int) ^ (d + 1 - s) else 0)), some (.int ((d : Int) + 1))] ∧ H2 = H', ?_, ?_⟩
        · rintro σ2 H2 ⟨rfl, rfl⟩
          exact ⟨_, by omega, d + 1, j - capB q s d, rfl, rfl, rfl, by omega, by omega, by rw [← hl, lvl_out hc (d := d) (i := j) h1]⟩
        · repeat walk_at "st"
          have e4 : (if s ≤ d then (q : Int) ^ (d - s) else 0) * (q : Int) = if s ≤ d then (q : Int) ^ (d + 1 - s) else 0 := by
            by_cases z : s ≤ d
            · rw [if_pos z, if_pos z, show d + 1 - s = (d - s) + 1 by omega, Int.pow_succ]
            · rw [if_neg z, if_neg z, Int.zero_mul]
          have lo := lost (d + 1) ((if s ≤ d then (q : Int) ^ (d - s) else 0) * (q : Int)) (by omega) e4
          refine w_ite (fun h2 => ?_) (fun h2 => ?_)
          · have h2 : d + 1 = s := by injection h2 with h2; omega
            rw [if_pos h2] at lo
            repeat walk_at "st"
            exact ⟨by rw [← lo, Int.pow_succ]; rfl, rfl⟩
          · have h2 : ¬ d + 1 = s := fun z => h2 (by rw [← z]; rfl)
            rw [if_neg h2] at lo
            repeat walk_at "st"
            exact ⟨by rw [← lo, Int.pow_succ]; rfl, rfl⟩
      · rw [← cd] at h1
        rw [← hl, lvl_in (by omega)] at k
        repeat walk_at "st"
        refine ⟨by walk_at "len", fun t ht => ?_⟩
        exact k t ht
    repeat walk_at "st"
    refine w_ite (fun h2 => ?_) (fun h2 => ?_)
    · have h2 : s = 1 := by injection h2 with h2; omega
      repeat walk_at "st"
      exact main 1 (by rw [h2]; rfl)
    · have h2 : ¬ s = 1 := fun z => h2 (by rw [z]; rfl)
      repeat walk_at "st"
      exact main 0 (by rw [if_neg (by omega)])
end

end Pt_worst1
section Pt_worst2
/-! ### worst.py: Worst -/
abbrev cWst (K : PySem.W.Frag) : Addr := He.ga K "Worst"
def spV : Option Nat → V
  | none => .non
  | some s => .int (s : Nat)
def WstAt (K : PySem.W.Frag) (H : Hp) (x : Addr) (S : Sg) (n r : Int) (sp : Option Nat) : Prop := ∃ dx a, H x = some (.ins (cWst K) dx [("setting", .ref a), ("size", .int n), ("codes", .int r), ("spared", spV sp)]) ∧ SetAt K H a S
theorem WstAt.same {K : PySem.W.Frag} {H H' : Hp} {x : Addr} {S : Sg} {n r : Int} {sp : Option Nat} (e : Same H H') (h : WstAt K H x S n r sp) : WstAt K H' x S n r sp := let ⟨dx, a, h, h2⟩ := h; ⟨dx, a, e _ _ h, h2.same e⟩
def TellsW (S : Sg) (z : Int) : Prop := looseB S = true → z ≤ leastO S (S.ln + 1)
/-- what is asked of a spared word, wherever a word is asked for -/
def SpAs (S : Sg) (sp : Option Nat) : Prop := ∀ s, sp = some s → S.lk = .standing ∧ S.hid = false ∧ 1 ≤ s ∧ s ≤ 1000
def spWstInit (K : PySem.W.Frag) : Sp := fun vs H Q _ => ∃ x dx a S n, vs = [.ref x, .ref a, .int n] ∧ H x = some (.ins (cWst K) dx []) ∧ SetAt K H a S ∧ SgOk S ∧ BigI n ∧ TellsW S n ∧
  ∀ r H', MostR S n r → r ≤ n → (∀ b w, b ≠ x → H b = some w → H' b = some w) → H' x = some (.ins (cWst K) dx [("setting", .ref a), ("size", .int n), ("codes", .int r), ("spared", spV (spO S r))]) → SpAs S (spO S r) → Q .non H'
def spWstBegin (K : PySem.W.Frag) : Sp := fun vs H Q _ => ∃ x S n r sp i, vs = [.ref x, .int i] ∧ WstAt K H x S n r sp ∧ SgOk S ∧ SpAs S sp ∧ BigI i ∧ ∀ H', Same H H' → Q (.int (begO S sp i)) H'
def spWstWord (K : PySem.W.Frag) : Sp := fun vs H Q _ => ∃ x S n r sp, ∃ i : Nat, vs = [.ref x, .int i] ∧ WstAt K H x S n r sp ∧ SgOk S ∧ SpAs S sp ∧ BigI i ∧ ∀ H', Same H H' → Q (.str (SX.S (wordO S sp i))) H'
def spWstHid (K : PySem.W.Frag) : Sp := fun vs H Q _ => ∃ x S n r sp, ∃ i : Nat, vs = [.ref x, .int i] ∧ WstAt K H x S n r sp ∧ SgOk S ∧ S.hid = true ∧ BigI i ∧ ∀ H', Same H H' → Q (.str (SX.S (wordO S sp i))) H'
def spWstTold (K : PySem.W.Frag) : Sp := fun vs H Q _ => ∃ x S n r, ∃ i : Nat, vs = [.ref x, .int i] ∧ WstAt K H x S n r none ∧ SgOk S ∧ S.hid = false ∧ BigI i ∧ ∀ H', Same H H' → Q (.str (SX.S (wordO S none i))) H'
def spWstSpar (K : PySem.W.Frag) : Sp := fun vs H Q _ => ∃ x S n r s, ∃ i : Nat, vs = [.ref x, .int i] ∧ WstAt K H x S n r (some s) ∧ SgOk S ∧ SpAs S (some s) ∧ BigI i ∧ ∀ H', Same H H' → Q (.str (SX.S (wordO S (some s) i))) H'
def spWstCode (K : PySem.W.Frag) : Sp := fun vs H Q _ => ∃ x S n r sp, ∃ i : Nat, vs = [.ref x, .int i] ∧ WstAt K H x S n r sp ∧ SgOk S ∧ SpAs S sp ∧ BigI i ∧ BigI n ∧ begO S sp i ≤ n ∧ ∀ H', Same H H' → Q (.str (SX.S (if (i : Int) + 1 < r then wordO S sp i else (wordO S sp i).take (n - begO S sp i).toNat))) H'
theorem lvl_len {c : Nat → Int} (hc : ∀ d, 1 ≤ c d) : ∀ (n d : Nat) (i : Int), i.toNat ≤ n → 0 ≤ i → ((lvl c d i).1 : Int) < d + (fill c d (i + 1)).length
  | n, d, i, hn, h0 => by
    have := hc d
    rw [fill_cons hc (by omega), List.length_cons]
    by_cases h : i < c d
    · rw [lvl_in h]
      show (d : Int) < _
      omega
    · cases n with
      | zero => omega
      | succ n =>
        rw [lvl_out hc (by omega), show min (c d) (i + 1) = c d by omega, show i + 1 - c d = (i - c d) + 1 by omega]
        have := lvl_len hc n (d + 1) (i - c d) (by omega) (by omega)
        omega
theorem spot_le {S : Sg} (ok : SgOk S) (i : Nat) : 0 ≤ spotO S i ∧ spotO S i ≤ i := by
  have lim := ok.lim
  unfold spotO
  split
  · rename_i h
    have hk : S.lk = .cleared := by cases hk : S.lk <;> rw [hk] at h <;> first | rfl | cases h
    rw [hk] at lim
    have l1 : 1 ≤ S.ln := lim.1
    have := Int.emod_nonneg (i : Int) (show S.ln ≠ 0 by omega)
    have h2 := Int.emod_lt_of_pos (i : Int) (show 0 < S.ln by omega)
    refine ⟨this, ?_⟩
    by_cases c : (i : Int) < S.ln
    · rw [Int.emod_eq_of_lt (by omega) c]
      exact Int.le_refl _
    · omega
  · omega
theorem lvlS_nat {S : Sg} (ok : SgOk S) {i : Nat} (h : (i : Int) ≤ 1000000000000000000000000000000) : ∃ d j : Nat, lvlS S i = (d, (j : Int)) ∧ 1 ≤ d ∧ d ≤ 1000 := by
  obtain ⟨s0, s1⟩ := spot_le ok i
  obtain ⟨a, b, c, e⟩ := lvl_ge (capC_pos ok) _ 1 (spotO S i) (Nat.le_refl _) s0
  have l := lvl_len (capC_pos ok) _ 1 (spotO S i) (Nat.le_refl _) s0
  refine ⟨(lvlS S i).1, (lvlS S i).2.toNat, ?_, a, ?_⟩
  · have : 0 ≤ (lvlS S i).2 := b
    rw [Int.toNat_of_nonneg this]
  · have : (fill (capC S) 1 (spotO S i + 1)).length ≤ 104 := by
      unfold capC
      split
      · rename_i h
        have hk : S.lk = .short := by cases hk : S.lk <;> rw [hk] at h <;> first | rfl | cases h
        have := short_len ok hk (m := spotO S i + 1) (by omega)
        omega
      · exact free_len ok (by omega)
    have : ((lvlS S i).1 : Int) < (1 : Nat) + (fill (capC S) 1 (spotO S i + 1)).length := l
    omega
theorem lv_use {S : Sg} (ok : SgOk S) {i d j : Nat} (h : lvlS S i = (d, (j : Int))) {a : Int} {dp : Option Int} {spot : Int} (ea : a = firstO S) (ec : capD (firstO S) S.q dp = capC S) (es : spotO S i = spot) (hi : (i : Int) ≤ 1000000000000000000000000000000) {H : Hp} {Q : VK} {E : XK} (k : ∀ t, H t = none → Q (.ref t) (upd H t (.tup [.int d, .int j]))) : spLevelOf [.int a, .int S.q, .int spot, deepV dp] H Q E := by
  have f1 := first_pos ok
  obtain ⟨s0, s1⟩ := spot_le ok i
  subst ea
  refine ⟨firstO S, S.q, spot, dp, rfl, by omega, ok.q1, ok.q2, by omega, by show spot ≤ _; omega, fun t ht => ?_⟩
  have e : lvl (capD (firstO S) S.q dp) 1 spot = (d, (j : Int)) := by rw [ec, ← es]; exact h
  rw [e]
  exact k t ht
theorem code_len {S : Sg} (ok : SgOk S) {sp : Option Nat} (hsp : SpAs S sp) {i : Nat} (h : (i : Int) ≤ 1000000000000000000000000000000) : (wordO S sp i).length ≤ 10000 := by
  have e := wordO_len ok sp i
  obtain ⟨d, j, hdj, d1, d2⟩ := lvlS_nat ok h
  rw [hdj] at e
  split at e
  · split at e <;> omega
  · cases sp with
    | none =>
      have e : ((wordO S none i).length : Int) = d := e
      omega
    | some s =>
      obtain ⟨hk, hh, s1, s2⟩ := hsp s rfl
      have lim := ok.lim
      have q1 := ok.q1
      rw [hk] at lim
      obtain ⟨n0, n1⟩ : 0 ≤ S.ln ∧ S.ln ≤ 4096 := lim
      have e : ((wordO S (some s) i).length : Int) = if S.ln ≤ (i : Int) then (s : Int) else ((lvl (capB S.q s) 1 i).1 : Int) := e
      split at e
      · omega
      · have bp := capB_pos (q := (S.q : Int)) (by omega) s1
        have l := lvl_len bp _ 1 (i : Int) (Nat.le_refl _) (by omega)
        have f := fill_len bp _ 1 ((i : Int) + 1) (Nat.le_refl _)
        omega
theorem flat_single (s c : Nat) : (List.replicate s [c]).flatten = List.replicate s c := by
  induction s with
  | zero => rfl
  | succ s ih => rw [List.replicate_succ, List.flatten_cons, ih, List.replicate_succ]; rfl
theorem same_newW {H : Hp} {t : Addr} {o : HO} (h : H t = none) : Same H (upd H t o) := same_new h (Same.refl H)
/-- all but one object kept -/
def Kp (x : Addr) (H H' : Hp) : Prop := ∀ b w, b ≠ x → H b = some w → H' b = some w
theorem Kp.put {x : Addr} {H : Hp} {o : HO} : Kp x H (upd H x o) := fun b w n h => by rw [upd_ne n]; exact h
theorem Kp.trans {x : Addr} {H H1 H2 : Hp} (a : Kp x H H1) (b : Kp x H1 H2) : Kp x H H2 := fun c w n h => b c w n (a c w n h)
theorem Kp.of {x : Addr} {H H' : Hp} (e : Same H H') : Kp x H H' := fun b w _ h => e b w h
theorem SetAt.kp {K : PySem.W.Frag} {x C dx a : Addr} {H H' : Hp} {S : Sg} (hx : H x = some (.ins C dx [])) (hS : SetAt K H a S) (e : Kp x H H') : SetAt K H' a S := by
  obtain ⟨dx2, l2, g2, ⟨dl2, g3⟩, g4⟩ := hS
  refine ⟨dx2, l2, e _ _ (fun z => ?_) g2, ⟨dl2, e _ _ (fun z => ?_) g3⟩, g4⟩
  · rw [z, hx] at g2
    cases g2
  · rw [z, hx] at g3
    cases hk : S.lk <;> rw [hk] at g3 <;> cases g3
theorem spF_as {S : Sg} (ok : SgOk S) (hk : S.lk = .standing) (m : Int) : 1 ≤ spF S m ∧ spF S m ≤ 1000 := by
  have s1 := fmin_spec (costO S m) (deepO S) (by unfold deepO; omega)
  have := deep_le ok hk
  exact ⟨s1.1, by have := s1.2.1; show fminO _ _ ≤ _; omega⟩
theorem spO_as {S : Sg} (ok : SgOk S) (r : Int) : SpAs S (spO S r) := fun s h => by
  unfold spO at h
  split at h
  · rename_i c
    injection h with h
    rw [← h]
    obtain ⟨c1, c2⟩ := Bool.and_eq_true_iff.mp c
    obtain ⟨c2, c3⟩ := Bool.and_eq_true_iff.mp c2
    have hk : S.lk = .standing := by cases hk : S.lk <;> rw [hk] at c2 <;> first | rfl | cases c2
    have hh : S.hid = false := by
      cases e : S.hid with
      | true => rw [e] at c1; cases c1
      | false => rfl
    exact ⟨hk, hh, spF_as ok hk _⟩
  · cases h
local macro_rules | `(tactic| walk_at "cond") => `(tactic| first | (refine small_mul ?_ ?_ <;> omega) | (refine small_mul' ?_ ?_ <;> omega) | (refine small_div ?_ ?_ <;> omega))
set_option hygiene false in
local macro_rules | `(tactic| walk_at "na") => `(tactic| first | exact T.na_wst_setting | exact T.na_wst_size | exact T.na_wst_codes | exact T.na_wst_spared)
set_option hygiene false in
local macro_rules | `(tactic| walk_at "cl") => `(tactic| exact T.cl_wst)
set_option hygiene false in
local macro_rules | `(tactic| walk_at "tail") => `(tactic| (
  repeat walk_at "st"
  refine ⟨S.q, i % (S.q * S.q), by rw [show (i : Int) % ((S.q : Int) * S.q) = ((i % (S.q * S.q) : Nat) : Int) by rw [← qq]; rfl]; rfl, q1, q2, Nat.mod_lt _ qp, ?_⟩
  repeat walk_at "st"
  refine w_sgn rfl (Nat.lt_of_lt_of_le (plc_lt S.q 0 _ (by omega) (by omega) (Nat.mod_lt _ qp)) q2) ?_
  repeat walk_at "st"
  refine ⟨S.q, j / (S.q * S.q), d - 1, by rw [show (j : Int) / ((S.q : Int) * S.q) = ((j / (S.q * S.q) : Nat) : Int) by rw [← qq]; rfl, show (d : Int) - 1 = ((d - 1 : Nat) : Int) by omega]; rfl, q1, q2, by omega, fun H1 e1 => ?_⟩
  refine w_addS (by rw [sx_len _, sx_len _, List.length_cons, List.length_nil, dgtW_len _ _ _]; have sz := sizeLine_eq; omega) ?_
  rw [SX.S_cat _ _]
  exact k H1 ((same_newW ht).trans e1)))
section
variable {P : Program} {w : World} {K : PySem.W.Frag} {mg : Str → Option Value} {base : Heap}
theorem d_Worst___init__ (T : Txt K mg) {f : Addr} (F : FA K "__init__" "Worst.__init__" s_Worst___init__ [] f) (c_most_of : Dn P w K mg base 10 "most_of" s_most_of ["setting", "size"] (spMostOf K)) (c_spared_for : Dn P w K mg base 5 "spared_for" s_spared_for ["setting", "many"] (spSparedF K)) (c_set_limit : ∀ h : Bool, Fr P w K mg base 1 (gtA K (cSet K h) "limit") ["self"] [] (spSetLimit K h)) : Fr P w K mg base 12 (f) ["self", "setting", "n"] [] (spWstInit K) := by
  refine fr_of0 F (fun _ _ _ _ _ _ us hl => match us, hl with | [_, _, _], _ => rfl) sc_Worst___init__ (fun vs H Q E h => ?_) (fun fa cdv A outer s H vs Q E hr h => ?_)
  · obtain ⟨x, dx, a, S, n, rfl, _⟩ := h
    rfl
  · obtain ⟨x, dx, a, S, n, rfl, hx, hS, ok, hn, ht, k⟩ := h
    refine ⟨_, PSs.nox (pss_cons (ps_fld (pv 0) (pv 1) rfl)
 (pss_cons (ps_fld (pv 0) (pv 2) rfl)
 (pss_cons (ps_fld (pv 0) (pe_d c_most_of hr (by decide) rfl (pa_cons (pv 1) (pa_cons (pv 2) pa_nil))) rfl)
 (pss_cons (ps_fld (pv 0) pe_non rfl)
 (pss_cons (ps_set (i := 3) sc_Worst___init__.nd rfl (Or.inl rfl) (pe_any fun h => pe_pr (c_set_limit h) (T.cl_set h) (T.pr_limit h) hr (by decide) (pv 1)))
 (pss_one (ps_if (PW.pt (pw_and (pt_val (pe_callB call_isi (by rfl) T.n_isinstance (by decide +kernel) (pa_cons (pv 3) (pa_cons (pe_gc (x := "Standing") rfl (T.gc_lim .standing)) pa_nil))) (by intro _; rfl)) (pw_and (pt_not (pt_val (pe_callB call_isi (by rfl) T.n_isinstance (by decide +kernel) (pa_cons (pv 1) (pa_cons (pe_gc (x := "Hidden") rfl (T.gc_Hidden)) pa_nil))) (by intro _; rfl))) (pw_and1 (pt_cmpR op_gt (pe_fld (pv 0) rfl) (pe_op op_add (pe_fld (pv 3) rfl) pe_int) (nomark _))))))
 (pss_one (ps_fld (pv 0) (pe_d c_spared_for hr (by decide) rfl (pa_cons (pv 1) (pa_cons (pe_op op_sub (pe_fld (pv 0) rfl) pe_int) pa_nil))) rfl))
 pss_nil))))))), ?_⟩
    refine w_start (σ := [some (.ref x), some (.ref a), some (.int n), none]) rfl ?_
    repeat walk_at "st"
    have k1 : Kp x H (upd (upd H x (.ins (cWst K) dx (putF "setting" (.ref a) []))) x (.ins (cWst K) dx (putF "size" (.int n) (putF "setting" (.ref a) [])))) := Kp.put.trans Kp.put
    have f1 : (upd (upd H x (.ins (cWst K) dx (putF "setting" (.ref a) []))) x (.ins (cWst K) dx (putF "size" (.int n) (putF "setting" (.ref a) [])))) x = some (.ins (cWst K) dx [("setting", .ref a), ("size", .int n)]) := upd_same
    generalize (upd (upd H x (.ins (cWst K) dx (putF "setting" (.ref a) []))) x (.ins (cWst K) dx (putF "size" (.int n) (putF "setting" (.ref a) [])))) = H1 at k1 f1 ⊢
    have hS1 := hS.kp hx k1
    refine ⟨a, S, n, rfl, hS1, ok, hn, fun r H2 hr hle e2 => ?_⟩
    have k2 := k1.trans (Kp.of e2)
    have f2 := e2 _ _ f1
    repeat walk_at "st"
    have k3 : Kp x H (upd (upd H2 x (.ins (cWst K) dx (putF "codes" (.int r) [("setting", .ref a), ("size", .int n)]))) x (.ins (cWst K) dx (putF "spared" .non (putF "codes" (.int r) [("setting", .ref a), ("size", .int n)])))) := k2.trans (Kp.put.trans Kp.put)
    have f3 : (upd (upd H2 x (.ins (cWst K) dx (putF "codes" (.int r) [("setting", .ref a), ("size", .int n)]))) x (.ins (cWst K) dx (putF "spared" .non (putF "codes" (.int r) [("setting", .ref a), ("size", .int n)])))) x = some (.ins (cWst K) dx [("setting", .ref a), ("size", .int n), ("codes", .int r), ("spared", .non)]) := upd_same
    generalize (upd (upd H2 x (.ins (cWst K) dx (putF "codes" (.int r) [("setting", .ref a), ("size", .int n)]))) x (.ins (cWst K) dx (putF "spared" .non (putF "codes" (.int r) [("setting", .ref a), ("size", .int n)])))) = H3 at k3 f3 ⊢
    have hS3 := hS.kp hx k3
    have hS3' := hS3
    have as := spO_as ok r
    have fin : spO S r = none → Q .non H3 := fun e => k r H3 hr hle k3 (by rw [f3, e]; rfl) as
    obtain ⟨dx2, l, ha, ⟨dl, hl⟩, q1, q2⟩ := hS3
    have lim := ok.lim
    refine ⟨S.hid, ?_⟩
    repeat walk_at "st"
    refine ⟨a, dx2, l, (S.q : Int), rfl, ha, ?_⟩
    repeat walk_at "st"
    refine w_isaB hl (T.cl_lim _) (T.isa_k _ .standing) ?_
    by_cases hk : S.lk = .standing
    · have hkE : kEq S.lk .standing = true := by rw [hk]; rfl
      rw [hk] at hl lim
      have n0 : 0 ≤ S.ln := lim.1
      have n1 : S.ln ≤ 4096 := lim.2
      rw [hkE]
      repeat walk_at "st"
      refine w_isaB ha (T.cl_set _) (T.isa_hid _) ?_
      cases hh : S.hid with
      | true =>
        repeat walk_at "st"
        exact fin (by unfold spO; rw [hh]; rfl)
      | false =>
        repeat walk_at "st"
        refine w_ite (fun h1 => ?_) (fun h1 => ?_)
        · have e : spO S r = some (spF S (r - 1)) := by
            unfold spO
            rw [hh, hkE, decide_eq_true (by omega)]
            rfl
          repeat walk_at "st"
          refine ⟨a, S, r - 1, rfl, hS3', ok, hk, fun H4 e4 => ?_⟩
          have f4 := e4 _ _ f3
          repeat walk_at "st"
          exact k r _ hr hle ((k3.trans (Kp.of e4)).trans Kp.put) (by rw [upd_same, e]; rfl) as
        · repeat walk_at "st"
          exact fin (by unfold spO; rw [hh, hkE, decide_eq_false (by omega)]; rfl)
    · have hkE : kEq S.lk .standing = false := by cases h : S.lk <;> first | rfl | exact absurd h hk
      rw [hkE]
      repeat walk_at "st"
      exact fin (by unfold spO; rw [hkE, Bool.false_and, Bool.and_false]; rfl)
theorem d_Worst_begin_of (T : Txt K mg) {f : Addr} (F : FA K "begin_of" "Worst.begin_of" s_Worst_begin_of [] f) (c_letters_in : Dn P w K mg base 1 "letters_in" s_letters_in ["counts"] (spLetIn)) (c_filled_but : Dn P w K mg base 1 "filled_but" s_filled_but ["letters", "many", "spared"] (spFillBut)) (c_counts_for : Dn P w K mg base 7 "counts_for" s_counts_for ["setting", "many"] (spCounts K)) (c_set_limit : ∀ h : Bool, Fr P w K mg base 1 (gtA K (cSet K h) "limit") ["self"] [] (spSetLimit K h)) : Fr P w K mg base 9 (f) ["self", "at"] [] (spWstBegin K) := by
  refine fr_of0 F (fun _ _ _ _ _ _ us hl => match us, hl with | [_, _], _ => rfl) sc_Worst_begin_of (fun vs H Q E h => ?_) (fun fa cdv A outer s H vs Q E hr h => ?_)
  · obtain ⟨x, S, n, r, sp, i, rfl, _⟩ := h
    rfl
  · obtain ⟨x, S, n, r, sp, i, rfl, ⟨dx, a, hx, hS⟩, ok, hsp, hi, k⟩ := h
    obtain ⟨i0, i1⟩ := hi
    have hS' := hS
    obtain ⟨dx2, l, ha, ⟨dl, hl⟩, q1, q2⟩ := hS
    have lim := ok.lim
    refine ⟨_, PSs.nox (pss_cons (ps_if (pt_cmpR op_isN' (pe_fld (pv 0) rfl) pe_non (nomark _))
 (pss_one (ps_ret (pe_d c_letters_in hr (by decide) rfl (pa_cons (pe_d c_counts_for hr (by decide) rfl (pa_cons (pe_fld (pv 0) rfl) (pa_cons (pv 1) pa_nil))) pa_nil))))
 pss_nil)
 (pss_cons (ps_set (i := 2) sc_Worst_begin_of.nd rfl (Or.inl rfl) (pe_fld (pe_any fun h => pe_pr (c_set_limit h) (T.cl_set h) (T.pr_limit h) hr (by decide) (pe_fld (pv 0) rfl)) rfl))
 (pss_cons (ps_set (i := 3) sc_Worst_begin_of.nd rfl (Or.inl rfl) (pe_d c_letters_in hr (by decide) rfl (pa_cons (pe_d c_filled_but hr (by decide) rfl (pa_cons (pe_fld (pe_fld (pv 0) rfl) rfl) (pa_cons (pe_callB (call_min2 rfl) (by rfl) T.n_min (by decide +kernel) (pa_cons (pe_callTy cl_int1 (by rfl) T.n_int (by decide +kernel) (pa_cons (pv 1) pa_nil)) (pa_cons (pe_callTy cl_int1 (by rfl) T.n_int (by decide +kernel) (pa_cons (pv 2) pa_nil)) pa_nil))) (pa_cons (pe_fld (pv 0) rfl) pa_nil)))) pa_nil)))
 (pss_one (ps_ret (pe_op op_add (pv 3) (pe_op op_mulA (pe_callB (call_max2 rfl) (by rfl) T.n_max (by decide +kernel) (pa_cons pe_int (pa_cons (pe_callTy cl_int1 (by rfl) T.n_int (by decide +kernel) (pa_cons (pe_op op_sub (pv 1) (pv 2)) pa_nil)) pa_nil))) (pe_fld (pv 0) rfl)))))))), ?_⟩
    refine w_start (σ := [some (.ref x), some (.int i), none, none]) rfl ?_
    with_reducible refine w_seq ?_
    cases sp with
    | none =>
      have hx : H x = some (.ins (cWst K) dx [("setting", .ref a), ("size", .int n), ("codes", .int r), ("spared", .non)]) := hx
      repeat walk_at "st"
      refine ⟨a, S, i, rfl, hS', ok, i0, by show i ≤ _; omega, fun p1 H1 hp1 e1 f1 => ?_⟩
      repeat walk_at "st"
      refine ⟨p1, _, rfl, .inl f1, cnt_len ok (by omega), fun H2 e2 => ?_⟩
      repeat walk_at "st"
      exact k H2 (e1.trans e2)
    | some s =>
      obtain ⟨hk, hh, s1, s2⟩ := hsp s rfl
      rw [hk] at hl lim
      have n0 : 0 ≤ S.ln := lim.1
      have n1 : S.ln ≤ 4096 := lim.2
      have hx : H x = some (.ins (cWst K) dx [("setting", .ref a), ("size", .int n), ("codes", .int r), ("spared", .int (s : Nat))]) := hx
      repeat walk_at "st"
      refine ⟨S.hid, ?_⟩
      repeat walk_at "st"
      refine ⟨a, dx2, l, (S.q : Int), rfl, ha, ?_⟩
      repeat walk_at "st"
      refine ⟨_, _, rfl, ?_⟩
      repeat walk_at "st"
      have em : (if S.ln < i then S.ln else i) = min i S.ln := by split <;> omega
      rw [em]
      have bp := capB_pos (q := (S.q : Int)) (by omega) s1
      refine ⟨S.q, min i S.ln, s, rfl, q1, q2, s1, by omega, fun p1 H1 hp1 e1 f1 => ?_⟩
      repeat walk_at "st"
      have fl := fill_len bp _ 1 (min i S.ln) (Nat.le_refl _)
      refine ⟨p1, _, rfl, .inl f1, by omega, fun H2 e2 => ?_⟩
      have hx2 := (e1.trans e2) _ _ hx
      repeat walk_at "st"
      refine ⟨_, _, rfl, ?_⟩
      repeat walk_at "st"
      rw [show (if i - S.ln > 0 then i - S.ln else 0) = max 0 (i - S.ln) by split <;> omega]
      exact k H2 (e1.trans e2)
theorem d_Worst_hidden_word (T : Txt K mg) {f : Addr} (F : FA K "hidden_word" "Worst.hidden_word" s_Worst_hidden_word [] f) (c_digits_of : Dn P w K mg base 1 "digits_of" s_digits_of ["letters", "number", "size"] (spDigits)) (c_place_letter : Dn P w K mg base 1 "place_letter" s_place_letter ["letters", "place"] (spPlace)) (c_set_limit : ∀ h : Bool, Fr P w K mg base 1 (gtA K (cSet K h) "limit") ["self"] [] (spSetLimit K h)) (c_level_of4 : Fr P w K mg base 1 (He.ga K "level_of") ["first", "letters", "at", "deepest"] [] spLevelOf) : Fr P w K mg base 3 (f) ["self", "at"] [] (spWstHid K) := by
  refine fr_of0 F (fun _ _ _ _ _ _ us hl => match us, hl with | [_, _], _ => rfl) sc_Worst_hidden_word (fun vs H Q E h => ?_) (fun fa cdv A outer s H vs Q E hr h => ?_)
  · obtain ⟨x, S, n, r, sp, i, rfl, _⟩ := h
    rfl
  · obtain ⟨x, S, n, r, sp, i, rfl, ⟨dx, a, hx, hS⟩, ok, hh, hi, k⟩ := h
    refine ⟨_, PSs.nox (pss_cons (ps_par (i := 2) (j := 3) (by rfl) sc_Worst_hidden_word.nd rfl rfl (by decide) rfl rfl (pa_cons (pe_fld (pe_fld (pv 0) rfl) rfl) (pa_cons (pe_any fun h => pe_pr (c_set_limit h) (T.cl_set h) (T.pr_limit h) hr (by decide) (pe_fld (pv 0) rfl)) pa_nil)) (by rfl))
 (pss_cons (ps_set (i := 4) sc_Worst_hidden_word.nd rfl (Or.inl rfl) (pe_op op_mulA (pv 2) (pv 2)))
 (pss_cons (ps_if (PW.pt (pw_and (pt_val (pe_callB call_isi (by rfl) T.n_isinstance (by decide +kernel) (pa_cons (pv 3) (pa_cons (pe_gc (x := "Standing") rfl (T.gc_lim .standing)) pa_nil))) (by intro _; rfl)) (pw_and1 (pt_cmpR op_lt (pe_fld (pv 3) rfl) (pv 4) (nomark _)))))
 (pss_cons (ps_set (i := 5) sc_Worst_hidden_word.nd rfl (Or.inl rfl) (pe_ifExp (pt_cmpR op_lt (pv 1) (pe_fld (pv 3) rfl) (nomark _)) (pe_op op_add (pe_op op_sub (pv 4) (pe_fld (pv 3) rfl)) (pv 1)) pe_int))
 (pss_one (ps_ret (pe_ix ix_str (pe_gv rfl T.g_SIGNS) (pe_d c_place_letter hr (by decide) rfl (pa_cons (pv 2) (pa_cons (pv 5) pa_nil))) (fun _ _ => rfl)))))
 pss_nil)
 (pss_cons (ps_set (i := 6) sc_Worst_hidden_word.nd rfl (Or.inl rfl) (pe_ifExp (pt_val (pe_callB call_isi (by rfl) T.n_isinstance (by decide +kernel) (pa_cons (pv 3) (pa_cons (pe_gc (x := "Short") rfl (T.gc_lim .short)) pa_nil))) (by intro _; rfl)) (pe_fld (pv 3) rfl) pe_non))
 (pss_cons (ps_set (i := 7) sc_Worst_hidden_word.nd rfl (Or.inl rfl) (pe_ifExp (pt_val (pe_callB call_isi (by rfl) T.n_isinstance (by decide +kernel) (pa_cons (pv 3) (pa_cons (pe_gc (x := "Cleared") rfl (T.gc_lim .cleared)) pa_nil))) (by intro _; rfl)) (pe_op op_mod (pv 1) (pe_fld (pv 3) rfl)) (pv 1)))
 (pss_cons (ps_asg (pe_f c_level_of4 T.gc_level_of T.kp_level_of hr (by decide) rfl (pa_cons (pv 4) (pa_cons (pv 2) (pa_cons (pv 7) (pa_cons (pv 6) pa_nil))))) (pg_tup rfl (pgs_cons (pg_name (i := 8) sc_Worst_hidden_word.nd rfl (Or.inl rfl)) (pgs_cons (pg_name (i := 9) sc_Worst_hidden_word.nd rfl (Or.inl rfl)) pgs_nil))))
 (pss_cons (ps_set (i := 10) sc_Worst_hidden_word.nd rfl (Or.inl rfl) (pe_op op_fdivW (pv 9) (pv 4)))
 (pss_one (ps_ret (pe_op op_addS (pe_ix ix_str (pe_gv rfl T.g_SIGNS) (pe_d c_place_letter hr (by decide) rfl (pa_cons (pv 2) (pa_cons (pe_op op_mod (pv 1) (pv 4)) pa_nil))) (fun _ _ => rfl)) (pe_d c_digits_of hr (by decide) rfl (pa_cons (pv 2) (pa_cons (pv 10) (pa_cons (pe_op op_sub (pv 8) pe_int) pa_nil)))))))))))))), ?_⟩
    obtain ⟨i0, i1⟩ := hi
    obtain ⟨dx2, l, ha, ⟨dl, hl⟩, q1, q2⟩ := hS
    have lim := ok.lim
    have ef : (S.q : Int) * S.q = firstO S := (if_pos hh).symm
    have qq : ((S.q * S.q : Nat) : Int) = (S.q : Int) * S.q := Int.natCast_mul _ _
    have qb : S.q * S.q ≤ 26 * 26 := Nat.mul_le_mul q2 q2
    have qp : 0 < S.q * S.q := Nat.mul_pos (by omega) (by omega)
    obtain ⟨d, j, hdj, d1, d2⟩ := lvlS_nat ok i1
    refine w_start (σ := [some (.ref x), some (.int i), none, none, none, none, none, none, none, none, none]) rfl ?_
    repeat walk_at "st"
    refine ⟨S.hid, ?_⟩
    repeat walk_at "st"
    refine ⟨a, dx2, l, (S.q : Int), rfl, ha, ?_⟩
    repeat walk_at "st"
    with_reducible refine w_seq ?_
    repeat walk_at "st"
    refine w_isaB hl (T.cl_lim _) (T.isa_k _ .standing) ?_
    have eT : ∀ b, tightB S = b → wordO S sp i = if b = true then [97 + plc S.q (if (i : Int) < S.ln then S.q * S.q - S.ln.toNat + i else 0)] else (97 + plc S.q (i % (S.q * S.q))) :: dgtW S.q (d - 1) (j / (S.q * S.q)) := fun b hb => by
      unfold wordO
      rw [if_pos hh, hb, hdj]
      rfl
    cases hk : S.lk with
    | standing =>
      rw [hk] at hl lim
      have n0 : 0 ≤ S.ln := lim.1
      have n1 : S.ln ≤ 4096 := lim.2
      repeat walk_at "st"
      refine w_ite (fun h1 => ?_) (fun h1 => ?_)
      · rw [eT true (by unfold tightB; rw [hk, decide_eq_true h1]; rfl), if_pos rfl] at k
        repeat walk_at "st"
        refine w_ite (fun h2 => ?_) (fun h2 => ?_)
        · rw [if_pos h2] at k
          repeat walk_at "st"
          refine ⟨S.q, S.q * S.q - S.ln.toNat + i, by rw [show (S.q : Int) * S.q - S.ln + i = ((S.q * S.q - S.ln.toNat + i : Nat) : Int) by omega]; rfl, q1, q2, by omega, ?_⟩
          repeat walk_at "st"
          refine w_sgn rfl (Nat.lt_of_lt_of_le (plc_lt S.q 0 _ (by omega) (by omega) (by omega)) q2) ?_
          exact k H (Same.refl H)
        · rw [if_neg h2] at k
          repeat walk_at "st"
          refine ⟨S.q, 0, rfl, q1, q2, by omega, ?_⟩
          repeat walk_at "st"
          refine w_sgn rfl (Nat.lt_of_lt_of_le (plc_lt S.q 0 _ (by omega) (by omega) (by omega)) q2) ?_
          exact k H (Same.refl H)
      · rw [eT false (by unfold tightB; rw [hk, decide_eq_false h1]; rfl), if_neg Bool.false_ne_true] at k
        repeat walk_at "st"
        refine w_isaB hl (T.cl_lim _) (T.isa_k _ .short) ?_
        repeat walk_at "st"
        refine w_isaB hl (T.cl_lim _) (T.isa_k _ .cleared) ?_
        repeat walk_at "st"
        refine lv_use ok hdj (dp := none) ef (by unfold capC; rw [hk]; rfl) (by unfold spotO; rw [hk]; rfl) i1 fun t ht => ?_
        have ft : upd H t (.tup [.int d, .int j]) t = some (.tup [.int d, .int j]) := upd_same
        walk_at "tail"
    | free =>
      rw [hk] at hl
      rw [eT false (by unfold tightB; rw [hk]; rfl), if_neg Bool.false_ne_true] at k
      repeat walk_at "st"
      refine w_isaB hl (T.cl_lim _) (T.isa_k _ .short) ?_
      repeat walk_at "st"
      refine w_isaB hl (T.cl_lim _) (T.isa_k _ .cleared) ?_
      repeat walk_at "st"
      refine lv_use ok hdj (dp := none) ef (by unfold capC; rw [hk]; rfl) (by unfold spotO; rw [hk]; rfl) i1 fun t ht => ?_
      have ft : upd H t (.tup [.int d, .int j]) t = some (.tup [.int d, .int j]) := upd_same
      walk_at "tail"
    | short =>
      rw [hk] at hl
      rw [eT false (by unfold tightB; rw [hk]; rfl), if_neg Bool.false_ne_true] at k
      repeat walk_at "st"
      refine w_isaB hl (T.cl_lim _) (T.isa_k _ .short) ?_
      repeat walk_at "st"
      refine w_isaB hl (T.cl_lim _) (T.isa_k _ .cleared) ?_
      repeat walk_at "st"
      refine lv_use ok hdj (dp := some S.ln) ef (by unfold capC; rw [hk]; rfl) (by unfold spotO; rw [hk]; rfl) i1 fun t ht => ?_
      have ft : upd H t (.tup [.int d, .int j]) t = some (.tup [.int d, .int j]) := upd_same
      walk_at "tail"
    | cleared =>
      rw [hk] at hl lim
      have l1 : 1 ≤ S.ln := lim.1
      rw [eT false (by unfold tightB; rw [hk]; rfl), if_neg Bool.false_ne_true] at k
      repeat walk_at "st"
      refine w_isaB hl (T.cl_lim _) (T.isa_k _ .short) ?_
      repeat walk_at "st"
      refine w_isaB hl (T.cl_lim _) (T.isa_k _ .cleared) ?_
      repeat walk_at "st"
      refine lv_use ok hdj (dp := none) ef (by unfold capC; rw [hk]; rfl) (by unfold spotO; rw [hk]; rfl) i1 fun t ht => ?_
      have ft : upd H t (.tup [.int d, .int j]) t = some (.tup [.int d, .int j]) := upd_same
      walk_at "tail"
theorem d_Worst_told_word (T : Txt K mg) {f : Addr} (F : FA K "told_word" "Worst.told_word" s_Worst_told_word [] f) (c_digits_of : Dn P w K mg base 1 "digits_of" s_digits_of ["letters", "number", "size"] (spDigits)) (c_first_level : Dn P w K mg base 1 "first_level" s_first_level ["setting"] (spFirst K)) (c_set_limit : ∀ h : Bool, Fr P w K mg base 1 (gtA K (cSet K h) "limit") ["self"] [] (spSetLimit K h)) (c_level_of4 : Fr P w K mg base 1 (He.ga K "level_of") ["first", "letters", "at", "deepest"] [] spLevelOf) : Fr P w K mg base 3 (f) ["self", "at"] [] (spWstTold K) := by
  refine fr_of0 F (fun _ _ _ _ _ _ us hl => match us, hl with | [_, _], _ => rfl) sc_Worst_told_word (fun vs H Q E h => ?_) (fun fa cdv A outer s H vs Q E hr h => ?_)
  · obtain ⟨x, S, n, r, i, rfl, _⟩ := h
    rfl
  · obtain ⟨x, S, n, r, i, rfl, ⟨dx, a, hx, hS⟩, ok, hh, hi, k⟩ := h
    obtain ⟨i0, i1⟩ := hi
    have hS' := hS
    obtain ⟨dx2, l, ha, ⟨dl, hl⟩, q1, q2⟩ := hS
    have lim := ok.lim
    refine ⟨_, PSs.nox (pss_cons (ps_par (i := 2) (j := 3) (by rfl) sc_Worst_told_word.nd rfl rfl (by decide) rfl rfl (pa_cons (pe_fld (pe_fld (pv 0) rfl) rfl) (pa_cons (pe_any fun h => pe_pr (c_set_limit h) (T.cl_set h) (T.pr_limit h) hr (by decide) (pe_fld (pv 0) rfl)) pa_nil)) (by rfl))
 (pss_cons (ps_set (i := 4) sc_Worst_told_word.nd rfl (Or.inl rfl) (pe_ifExp (pt_val (pe_callB call_isi (by rfl) T.n_isinstance (by decide +kernel) (pa_cons (pv 3) (pa_cons (pe_gc (x := "Short") rfl (T.gc_lim .short)) pa_nil))) (by intro _; rfl)) (pe_fld (pv 3) rfl) pe_non))
 (pss_cons (ps_set (i := 5) sc_Worst_told_word.nd rfl (Or.inl rfl) (pe_ifExp (pt_val (pe_callB call_isi (by rfl) T.n_isinstance (by decide +kernel) (pa_cons (pv 3) (pa_cons (pe_gc (x := "Cleared") rfl (T.gc_lim .cleared)) pa_nil))) (by intro _; rfl)) (pe_op op_mod (pv 1) (pe_fld (pv 3) rfl)) (pv 1)))
 (pss_cons (ps_asg (pe_f c_level_of4 T.gc_level_of T.kp_level_of hr (by decide) rfl (pa_cons (pe_d c_first_level hr (by decide) rfl (pa_cons (pe_fld (pv 0) rfl) pa_nil)) (pa_cons (pv 2) (pa_cons (pv 5) (pa_cons (pv 4) pa_nil))))) (pg_tup rfl (pgs_cons (pg_name (i := 6) sc_Worst_told_word.nd rfl (Or.inl rfl)) (pgs_cons (pg_name (i := 7) sc_Worst_told_word.nd rfl (Or.inl rfl)) pgs_nil))))
 (pss_one (ps_ret (pe_d c_digits_of hr (by decide) rfl (pa_cons (pv 2) (pa_cons (pv 7) (pa_cons (pv 6) pa_nil)))))))))), ?_⟩
    refine w_start (σ := [some (.ref x), some (.int i), none, none, none, none, none, none]) rfl ?_
    repeat walk_at "st"
    refine ⟨S.hid, ?_⟩
    repeat walk_at "st"
    refine ⟨a, dx2, l, (S.q : Int), rfl, ha, ?_⟩
    repeat walk_at "st"
    obtain ⟨d, j, hdj, d1, d2⟩ := lvlS_nat ok i1
    have ew : wordO S none i = dgtW S.q d j := by
      unfold wordO
      rw [hh, if_neg Bool.false_ne_true]
      show dgtW S.q (lvlS S i).1 (lvlS S i).2.toNat = _
      rw [hdj]
      rfl
    rw [ew] at k
    refine w_isaB hl (T.cl_lim _) (T.isa_k _ .short) ?_
    cases hk : S.lk with
    | short =>
      rw [hk] at hl
      repeat walk_at "st"
      refine w_isaB hl (T.cl_lim _) (T.isa_k _ .cleared) ?_
      repeat walk_at "st"
      refine ⟨a, S, rfl, hS', ?_⟩
      repeat walk_at "st"
      refine lv_use ok hdj (dp := some S.ln) rfl (by unfold capC; rw [hk]; rfl) (by unfold spotO; rw [hk]; rfl) i1 fun t ht => ?_
      have ft : upd H t (.tup [.int d, .int j]) t = some (.tup [.int d, .int j]) := upd_same
      repeat walk_at "st"
      exact ⟨S.q, j, d, rfl, q1, q2, by omega, fun H' e => k H' ((same_newW ht).trans e)⟩
    | free =>
      rw [hk] at hl
      repeat walk_at "st"
      refine w_isaB hl (T.cl_lim _) (T.isa_k _ .cleared) ?_
      repeat walk_at "st"
      refine ⟨a, S, rfl, hS', ?_⟩
      repeat walk_at "st"
      refine lv_use ok hdj (dp := none) rfl (by unfold capC; rw [hk]; rfl) (by unfold spotO; rw [hk]; rfl) i1 fun t ht => ?_
      have ft : upd H t (.tup [.int d, .int j]) t = some (.tup [.int d, .int j]) := upd_same
      repeat walk_at "st"
      exact ⟨S.q, j, d, rfl, q1, q2, by omega, fun H' e => k H' ((same_newW ht).trans e)⟩
    | standing =>
      rw [hk] at hl
      repeat walk_at "st"
      refine w_isaB hl (T.cl_lim _) (T.isa_k _ .cleared) ?_
      repeat walk_at "st"
      refine ⟨a, S, rfl, hS', ?_⟩
      repeat walk_at "st"
      refine lv_use ok hdj (dp := none) rfl (by unfold capC; rw [hk]; rfl) (by unfold spotO; rw [hk]; rfl) i1 fun t ht => ?_
      have ft : upd H t (.tup [.int d, .int j]) t = some (.tup [.int d, .int j]) := upd_same
      repeat walk_at "st"
      exact ⟨S.q, j, d, rfl, q1, q2, by omega, fun H' e => k H' ((same_newW ht).trans e)⟩
    | cleared =>
      rw [hk] at hl lim
      have l1 : 1 ≤ S.ln := lim.1
      repeat walk_at "st"
      refine w_isaB hl (T.cl_lim _) (T.isa_k _ .cleared) ?_
      repeat walk_at "st"
      refine ⟨a, S, rfl, hS', ?_⟩
      repeat walk_at "st"
      refine lv_use ok hdj (dp := none) rfl (by unfold capC; rw [hk]; rfl) (by unfold spotO; rw [hk]; rfl) i1 fun t ht => ?_
      have ft : upd H t (.tup [.int d, .int j]) t = some (.tup [.int d, .int j]) := upd_same
      repeat walk_at "st"
      exact ⟨S.q, j, d, rfl, q1, q2, by omega, fun H' e => k H' ((same_newW ht).trans e)⟩
theorem d_Worst_spared_word (T : Txt K mg) {f : Addr} (F : FA K "spared_word" "Worst.spared_word" s_Worst_spared_word [] f) (c_spared_level : Dn P w K mg base 1 "spared_level" s_spared_level ["letters", "at", "spared"] (spSparedL)) (c_digits_of : Dn P w K mg base 1 "digits_of" s_digits_of ["letters", "number", "size"] (spDigits)) (c_set_limit : ∀ h : Bool, Fr P w K mg base 1 (gtA K (cSet K h) "limit") ["self"] [] (spSetLimit K h)) : Fr P w K mg base 3 (f) ["self", "at"] [] (spWstSpar K) := by
  refine fr_of0 F (fun _ _ _ _ _ _ us hl => match us, hl with | [_, _], _ => rfl) sc_Worst_spared_word (fun vs H Q E h => ?_) (fun fa cdv A outer s H vs Q E hr h => ?_)
  · obtain ⟨x, S, n, r, s, i, rfl, _⟩ := h
    rfl
  · obtain ⟨x, S, n, r, s, i, rfl, ⟨dx, a, hx, hS⟩, ok, hsp, hi, k⟩ := h
    obtain ⟨i0, i1⟩ := hi
    obtain ⟨hk, hh, s1, s2⟩ := hsp s rfl
    obtain ⟨dx2, l, ha, ⟨dl, hl⟩, q1, q2⟩ := hS
    have lim := ok.lim
    rw [hk] at hl lim
    have n0 : 0 ≤ S.ln := lim.1
    have n1 : S.ln ≤ 4096 := lim.2
    refine ⟨_, PSs.nox (pss_cons (ps_set (i := 2) sc_Worst_spared_word.nd rfl (Or.inl rfl) (pe_fld (pe_fld (pv 0) rfl) rfl))
 (pss_cons (ps_if (pt_cmpR op_ge (pv 1) (pe_fld (pe_any fun h => pe_pr (c_set_limit h) (T.cl_set h) (T.pr_limit h) hr (by decide) (pe_fld (pv 0) rfl)) rfl) (nomark _))
 (pss_one (ps_ret (pe_op op_mulG (pe_ix ix_str (pe_gv rfl T.g_SIGNS) (pe_op op_sub (pv 2) pe_int) (fun _ _ => rfl)) (pe_fld (pv 0) rfl))))
 pss_nil)
 (pss_cons (ps_asg (pe_d c_spared_level hr (by decide) rfl (pa_cons (pv 2) (pa_cons (pv 1) (pa_cons (pe_fld (pv 0) rfl) pa_nil)))) (pg_tup rfl (pgs_cons (pg_name (i := 3) sc_Worst_spared_word.nd rfl (Or.inl rfl)) (pgs_cons (pg_name (i := 4) sc_Worst_spared_word.nd rfl (Or.inl rfl)) pgs_nil))))
 (pss_one (ps_ret (pe_d c_digits_of hr (by decide) rfl (pa_cons (pv 2) (pa_cons (pv 4) (pa_cons (pv 3) pa_nil))))))))), ?_⟩
    have bp := capB_pos (q := (S.q : Int)) (by omega) s1
    have ew : wordO S (some s) i = if S.ln ≤ (i : Int) then List.replicate s (97 + (S.q - 1)) else dgtW S.q (lvl (capB S.q s) 1 i).1 (lvl (capB S.q s) 1 i).2.toNat := by
      unfold wordO
      rw [hh, if_neg Bool.false_ne_true]
    rw [ew] at k
    refine w_start (σ := [some (.ref x), some (.int i), none, none, none]) rfl ?_
    repeat walk_at "st"
    with_reducible refine w_seq ?_
    repeat walk_at "st"
    refine ⟨S.hid, ?_⟩
    repeat walk_at "st"
    refine ⟨a, dx2, l, (S.q : Int), rfl, ha, ?_⟩
    repeat walk_at "st"
    have hx : H x = some (.ins (cWst K) dx [("setting", .ref a), ("size", .int n), ("codes", .int r), ("spared", .int (s : Nat))]) := hx
    refine w_ite (fun h1 => ?_) (fun h1 => ?_)
    · rw [if_pos h1] at k
      repeat walk_at "st"
      refine w_sgn (n := S.q - 1) (by omega) (by omega) ?_
      repeat walk_at "st"
      refine ⟨[97 + (S.q - 1)], s, rfl, rfl, ⟨by omega, by omega, by show 1 * _ ≤ _; omega⟩, ?_⟩
      rw [show repW (s : Int).toNat [97 + (S.q - 1)] = List.replicate s (97 + (S.q - 1)) by unfold repW; rw [Int.toNat_natCast, flat_single _ _]]
      exact k H (Same.refl H)
    · rw [if_neg h1] at k
      repeat walk_at "st"
      refine ⟨S.q, i, s, rfl, q1, q2, s1, by omega, fun t ht => ?_⟩
      obtain ⟨b1, b2, b3, b4⟩ := lvl_ge bp _ 1 (i : Int) (Nat.le_refl _) (by omega)
      have l1 := lvl_len bp _ 1 (i : Int) (Nat.le_refl _) (by omega)
      have f1 := fill_len bp _ 1 ((i : Int) + 1) (Nat.le_refl _)
      generalize (lvl (capB S.q s) 1 i).1 = d at *
      generalize (lvl (capB S.q s) 1 i).2 = j at *
      obtain ⟨m, rfl⟩ : ∃ m : Nat, j = m := ⟨j.toNat, by omega⟩
      rw [Int.toNat_natCast m] at k
      have ft : upd H t (.tup [.int d, .int m]) t = some (.tup [.int d, .int m]) := upd_same
      repeat walk_at "st"
      exact ⟨S.q, m, d, rfl, q1, q2, by omega, fun H' e => k H' ((same_newW ht).trans e)⟩
theorem d_Worst_whole_word (T : Txt K mg) {f : Addr} (F : FA K "whole_word" "Worst.whole_word" s_Worst_whole_word [] f) (c_Worst_hidden_word : Fr P w K mg base 3 (He.ma K (He.ga K "Worst") "hidden_word") ["self", "at"] [] (spWstHid K)) (c_Worst_told_word : Fr P w K mg base 3 (He.ma K (He.ga K "Worst") "told_word") ["self", "at"] [] (spWstTold K)) (c_Worst_spared_word : Fr P w K mg base 3 (He.ma K (He.ga K "Worst") "spared_word") ["self", "at"] [] (spWstSpar K)) : Fr P w K mg base 4 (f) ["self", "at"] [] (spWstWord K) := by
  refine fr_of0 F (fun _ _ _ _ _ _ us hl => match us, hl with | [_, _], _ => rfl) sc_Worst_whole_word (fun vs H Q E h => ?_) (fun fa cdv A outer s H vs Q E hr h => ?_)
  · obtain ⟨x, S, n, r, sp, i, rfl, _⟩ := h
    rfl
  · obtain ⟨x, S, n, r, sp, i, rfl, ⟨dx, a, hx, hS⟩, ok, hsp, hi, k⟩ := h
    refine ⟨_, PSs.nox (pss_cons (ps_if (pt_val (pe_callB call_isi (by rfl) T.n_isinstance (by decide +kernel) (pa_cons (pe_fld (pv 0) rfl) (pa_cons (pe_gc (x := "Hidden") rfl (T.gc_Hidden)) pa_nil))) (by intro _; rfl))
 (pss_one (ps_ret (pe_mt c_Worst_hidden_word T.cl_wst T.mt_wst_hidden_word hr (by decide) (pv 0) (pa_cons (pv 1) pa_nil))))
 pss_nil)
 (pss_one (ps_ret (pe_ifExp (pt_cmpR op_isN' (pe_fld (pv 0) rfl) pe_non (nomark _)) (pe_mt c_Worst_told_word T.cl_wst T.mt_wst_told_word hr (by decide) (pv 0) (pa_cons (pv 1) pa_nil)) (pe_mt c_Worst_spared_word T.cl_wst T.mt_wst_spared_word hr (by decide) (pv 0) (pa_cons (pv 1) pa_nil)))))), ?_⟩
    have hS' := hS
    obtain ⟨dx2, l, ha, ⟨dl, hl⟩, q1, q2⟩ := hS
    refine w_start (σ := [some (.ref x), some (.int i)]) rfl ?_
    with_reducible refine w_seq ?_
    repeat walk_at "st"
    refine w_isaB ha (T.cl_set _) (T.isa_hid _) ?_
    cases hh : S.hid with
    | true =>
      repeat walk_at "st"
      exact ⟨x, S, n, r, sp, i, rfl, ⟨dx, a, hx, hS'⟩, ok, hh, hi, k⟩
    | false =>
      cases sp with
      | none =>
        have hx' : H x = some (.ins (cWst K) dx [("setting", .ref a), ("size", .int n), ("codes", .int r), ("spared", .non)]) := hx
        repeat walk_at "st"
        exact ⟨x, S, n, r, i, rfl, ⟨dx, a, hx, hS'⟩, ok, hh, hi, k⟩
      | some s =>
        have hx' : H x = some (.ins (cWst K) dx [("setting", .ref a), ("size", .int n), ("codes", .int r), ("spared", .int (s : Nat))]) := hx
        repeat walk_at "st"
        exact ⟨x, S, n, r, s, i, rfl, ⟨dx, a, hx, hS'⟩, ok, hsp, hi, k⟩
theorem d_Worst_code_at (T : Txt K mg) {f : Addr} (F : FA K "code_at" "Worst.code_at" s_Worst_code_at [] f) (c_Worst_whole_word : Fr P w K mg base 4 (He.ma K (He.ga K "Worst") "whole_word") ["self", "at"] [] (spWstWord K)) (c_Worst_begin_of : Fr P w K mg base 9 (He.ma K (He.ga K "Worst") "begin_of") ["self", "at"] [] (spWstBegin K)) : Fr P w K mg base 10 (f) ["self", "at"] [] (spWstCode K) := by
  refine fr_of0 F (fun _ _ _ _ _ _ us hl => match us, hl with | [_, _], _ => rfl) sc_Worst_code_at (fun vs H Q E h => ?_) (fun fa cdv A outer s H vs Q E hr h => ?_)
  · obtain ⟨x, S, n, r, sp, i, rfl, _⟩ := h
    rfl
  · obtain ⟨x, S, n, r, sp, i, rfl, ⟨dx, a, hx, hS⟩, ok, hsp, hi, hn, hb, k⟩ := h
    refine ⟨_, PSs.nox (pss_cons (ps_set (i := 2) sc_Worst_code_at.nd rfl (Or.inl rfl) (pe_mt c_Worst_whole_word T.cl_wst T.mt_wst_whole_word hr (by decide) (pv 0) (pa_cons (pv 1) pa_nil)))
 (pss_one (ps_ret (pe_ifExp (pt_cmpR op_lt (pe_op op_add (pv 1) pe_int) (pe_fld (pv 0) rfl) (nomark _)) (pv 2) (pe_slice sl_str (pv 2) po_none (po_some (pe_callTy cl_int1 (by rfl) T.n_int (by decide +kernel) (pa_cons (pe_op op_sub (pe_fld (pv 0) rfl) (pe_mt c_Worst_begin_of T.cl_wst T.mt_wst_begin_of hr (by decide) (pv 0) (pa_cons (pv 1) pa_nil))) pa_nil)))))))), ?_⟩
    refine w_start (σ := [some (.ref x), some (.int i), none]) rfl ?_
    repeat walk_at "st"
    refine ⟨x, S, n, r, sp, i, rfl, ⟨dx, a, hx, hS⟩, ok, hsp, hi, fun H1 e1 => ?_⟩
    have hx1 := e1 _ _ hx
    repeat walk_at "st"
    refine w_ite (fun h1 => ?_) (fun h1 => ?_)
    · rw [if_pos h1] at k
      repeat walk_at "st"
      exact k H1 e1
    · rw [if_neg h1] at k
      repeat walk_at "st"
      refine ⟨x, S, n, r, sp, i, rfl, ⟨dx, a, hx1, hS.same e1⟩, ok, hsp, hi, fun H2 e2 => ?_⟩
      repeat walk_at "st"
      have wl := code_len ok hsp hi.2
      have sz := sizeLine_eq
      refine w_slS (by rw [sx_len]; omega) ?_
      rw [cutS_to (k := n - begO S sp i) (by omega)]
      exact k H2 (e1.trans e2)
end

end Pt_worst2
section Pt_worst3
/-! ### worst.py: worst_text, worst_code -/
theorem SpOk.mono {S : Sg} {sp : Option Nat} {m m' : Int} (h : SpOk S sp m) (le : m' ≤ m) : SpOk S sp m' :=
  ⟨fun a b c => Int.le_trans le (h.none_ a b c), fun a => Int.le_trans le (h.loose a), h.some_⟩
theorem code_beg {S : Sg} (ok : SgOk S) {n r : Int} (h : MostR S n r) {i : Nat} (hi : (i : Int) < r) : begO S (spO S r) i ≤ n := by
  obtain ⟨r0, hl, hle, _⟩ := h
  obtain ⟨k, hk⟩ : ∃ k : Nat, r = k + 1 := ⟨r.toNat - 1, by omega⟩
  have b := beg_len ok (r := r) (by omega)
  have e0 : leastO S r = lenO S (r - 1) + 1 := if_neg (by omega)
  have sk := spO_ok hl
  rw [show r - 1 = (k : Int) by omega] at b e0 sk
  have s1 := sum_begin ok sk
  have s2 := sum_begin ok (sk.mono (m' := (i : Int)) (by omega))
  obtain ⟨j, rfl⟩ : ∃ j, k = i + j := ⟨k - i, by omega⟩
  rw [sum_split, s2] at s1
  have : 0 ≤ ((List.range j).map fun t => ((wordO S (spO S r) (i + t)).length : Int)).sum := by
    rw [← flat_len (fun t => wordO S (spO S r) (i + t)) j]
    omega
  omega
theorem joinL_flat : ∀ L : List (List Nat), TL.joinL [] L = L.flatten
  | [] => rfl
  | [c] => by show c = _; simp
  | c :: d :: L => by
    have ih := joinL_flat (d :: L)
    rw [TL.joinL, ih, List.nil_append]
    rfl
theorem worstL_len (S : Sg) (n r : Int) : (worstL S n r).length ≤ n.toNat := by
  unfold worstL
  rw [List.length_take]
  omega
theorem sum_lenS : ∀ L : List (List Nat), ((L.map SX.S).map (·.length)).sum = L.flatten.length
  | [] => rfl
  | c :: L => by rw [List.map_cons, List.map_cons, List.sum_cons, sum_lenS L, List.flatten_cons, List.length_append, sx_len]
def spNeedShort (K : PySem.W.Frag) : Sp := fun vs H Q _ => ∃ a S n, vs = [.ref a, .int n] ∧ SetAt K H a S ∧ 0 ≤ n ∧ n ≤ 5000 ∧ Q .non H
def spWorstFor (K : PySem.W.Frag) : Sp := fun vs H Q _ => ∃ a S n i, vs = [.ref a, .int n, .int i] ∧ SetAt K H a S ∧ SgOk S ∧ BigI n ∧ BigI i ∧ TellsW S n ∧ ∀ x r H', MostR S n r → r ≤ n → Same H H' → WstAt K H' x S n r (spO S r) → Q (.ref x) H'
def spWorstCode (K : PySem.W.Frag) : Sp := fun vs H Q _ => ∃ a S n, ∃ i : Nat, vs = [.ref a, .int n, .int i] ∧ SetAt K H a S ∧ SgOk S ∧ BigI n ∧ BigI i ∧ TellsW S n ∧ (∀ r, MostR S n r → (i : Int) < r) ∧ ∀ r H', MostR S n r → Same H H' → Q (.str (SX.S (codeO S n r i))) H'
def spWorstText (K : PySem.W.Frag) : Sp := fun vs H Q _ => ∃ a S n, vs = [.ref a, .int n] ∧ SetAt K H a S ∧ SgOk S ∧ 0 ≤ n ∧ n ≤ 5000 ∧ TellsW S n ∧ ∀ r H', MostR S n r → Same H H' → Q (.str (SX.S (worstL S n r))) H'
set_option hygiene false in
local macro_rules | `(tactic| walk_at "st") => `(tactic| (with_reducible first | refine w_m1 ?_))
set_option hygiene false in
local macro_rules | `(tactic| walk_at "na") => `(tactic| first | exact T.na_wst_setting | exact T.na_wst_size | exact T.na_wst_codes | exact T.na_wst_spared)
set_option hygiene false in
local macro_rules | `(tactic| walk_at "cl") => `(tactic| exact T.cl_wst)
section
variable {P : Program} {w : World} {K : PySem.W.Frag} {mg : Str → Option Value} {base : Heap}
theorem d_worst_for (T : Txt K mg) (F : FD K mg "worst_for" s_worst_for) (c_need_setting : Dn P w K mg base 1 "need_setting" s_need_setting ["value", "part"] (spNeedSet K)) (c_need_size : Dn P w K mg base 4 "need_size" s_need_size ["value"] (spNeedSize)) (c_need_told_of : Dn P w K mg base 10 "need_told_of" s_need_told_of ["setting", "size"] (spNeedToldOf K)) (c_Worst___init__ : Fr P w K mg base 12 (He.ma K (He.ga K "Worst") "__init__") ["self", "setting", "n"] [] (spWstInit K)) : Dn P w K mg base 14 "worst_for" s_worst_for ["setting", "n", "at"] (spWorstFor K) := by
  refine dn_of F (fun _ _ _ _ _ _ us hl => match us, hl with | [_, _, _], _ => rfl) sc_worst_for (fun vs H Q E h => ?_) (fun fa cdv A outer s H vs Q E hr h => ?_)
  · obtain ⟨a, S, n, i, rfl, _⟩ := h
    rfl
  · obtain ⟨a, S, n, i, rfl, hS, ok, hn, hi, ht, k⟩ := h
    refine ⟨_, PSs.nox (pss_cons (ps_expr (pe_d c_need_setting hr (by decide) rfl (pa_cons (pv 0) (pa_cons pe_str pa_nil))))
 (pss_cons (ps_expr (pe_d c_need_size hr (by decide) rfl (pa_cons (pv 1) pa_nil)))
 (pss_cons (ps_expr (pe_d c_need_size hr (by decide) rfl (pa_cons (pv 2) pa_nil)))
 (pss_cons (ps_expr (pe_d c_need_told_of hr (by decide) rfl (pa_cons (pv 0) (pa_cons (pv 1) pa_nil))))
 (pss_one (ps_ret (pe_mk c_Worst___init__ T.mk_wst T.gc_wst hr (by decide) rfl (pa_cons (pv 0) (pa_cons (pv 1) pa_nil))))))))), ?_⟩
    refine w_start (σ := [some (.ref a), some (.int n), some (.int i)]) rfl ?_
    repeat walk_at "st"
    refine ⟨a, S, _, rfl, hS, ?_⟩
    repeat walk_at "st"
    refine ⟨n, rfl, hn.1, hn.2, ?_⟩
    repeat walk_at "st"
    refine ⟨i, rfl, hi.1, hi.2, ?_⟩
    repeat walk_at "st"
    refine ⟨a, S, n, rfl, hS, ok, ht, fun H1 e1 => ?_⟩
    repeat walk_at "st"
    refine fun x dx hx hdx ne => ⟨x, dx, a, S, n, rfl, upd_same, (hS.same e1).same (same_two hx hdx), ok, hn, ht, fun r H2 hr hle kp hx2 as => ⟨rfl, ?_⟩⟩
    have s12 : Same H1 H2 := fun b w hb => kp b w (ne_of_none hb hx) (same_two hx hdx b w hb)
    exact k x r H2 hr hle (e1.trans s12) ⟨dx, a, hx2, (hS.same e1).same s12⟩
theorem d_worst_code (T : Txt K mg) (F : FD K mg "worst_code" s_worst_code) (c_worst_for : Dn P w K mg base 14 "worst_for" s_worst_for ["setting", "n", "at"] (spWorstFor K)) (c_Worst_code_at : Fr P w K mg base 10 (He.ma K (He.ga K "Worst") "code_at") ["self", "at"] [] (spWstCode K)) : Dn P w K mg base 16 "worst_code" s_worst_code ["setting", "n", "i"] (spWorstCode K) := by
  refine dn_of F (fun _ _ _ _ _ _ us hl => match us, hl with | [_, _, _], _ => rfl) sc_worst_code (fun vs H Q E h => ?_) (fun fa cdv A outer s H vs Q E hr h => ?_)
  · obtain ⟨a, S, n, i, rfl, _⟩ := h
    rfl
  · obtain ⟨a, S, n, i, rfl, hS, ok, hn, hi, ht, hlt, k⟩ := h
    refine ⟨_, PSs.nox (pss_cons (ps_set (i := 3) sc_worst_code.nd rfl (Or.inl rfl) (pe_d c_worst_for hr (by decide) rfl (pa_cons (pv 0) (pa_cons (pv 1) (pa_cons (pv 2) pa_nil)))))
 (pss_cons (ps_if (pt_cmpR op_ge (pv 2) (pe_fld (pv 3) rfl) (nomark _))
 (pss_one ps_never)
 pss_nil)
 (pss_one (ps_ret (pe_mt c_Worst_code_at T.cl_wst T.mt_wst_code_at hr (by decide) (pv 3) (pa_cons (pv 2) pa_nil)))))), ?_⟩
    refine w_start (σ := [some (.ref a), some (.int n), some (.int i), none]) rfl ?_
    repeat walk_at "st"
    refine ⟨a, S, n, i, rfl, hS, ok, hn, hi, ht, fun x r H1 hr hle e1 hW => ?_⟩
    have hW' := hW
    obtain ⟨dx, a', hx, hS'⟩ := hW
    have := hlt r hr
    repeat walk_at "st"
    with_reducible refine w_seq ?_
    repeat walk_at "st"
    refine w_iteF (decide_eq_false (by omega)) ?_
    repeat walk_at "st"
    exact ⟨x, S, n, r, spO S r, i, rfl, hW', ok, spO_as ok r, hi, hn, code_beg ok hr this, fun H2 e2 => k r H2 hr (e1.trans e2)⟩
end

end Pt_worst3
section Pt_tupshow
/-! ### repr of tuples of small integers -/
def tupI (ns : List Int) : PyData := .tuple (ns.map PyData.int)
theorem tupI_shaped (ns : List Int) : SeqAt.shaped (tupI ns) = true := shaped_ints ns
theorem shown50 : ∀ i ∈ List.range 51, (PyData.shown (.int ((i : Nat) : Int))).length ≤ 13 := by decide +kernel
theorem tup_shows {ns : List Int} (h : ∀ n ∈ ns, 0 ≤ n ∧ n ≤ 50) (hl : ns.length ≤ 50) : (tupI ns).showable = true ∧ (tupI ns).hasDict = false ∧ (tupI ns).depth ≤ 60 ∧ (tupI ns).shown.length ≤ sizeLine := by
  have h1 : ∀ ns : List Int, (∀ n ∈ ns, 0 ≤ n ∧ n ≤ 50) → PyData.showableAll (ns.map PyData.int) = true := by
    intro ns
    induction ns with
    | nil => exact fun _ => rfl
    | cons n ns ih =>
      intro h
      rw [List.map_cons]
      show (PyData.showable (.int n) && PyData.showableAll (ns.map PyData.int)) = true
      rw [ih fun m hm => h m (List.mem_cons_of_mem _ hm), Bool.and_true]
      have := h n List.mem_cons_self
      exact decide_eq_true (PySem.Flt.log2_lt_of (by decide) (Nat.lt_of_le_of_lt (show n.natAbs ≤ 50 by omega) (by decide +kernel)))
  have h2 : ∀ ns : List Int, PyData.hasDictAll (ns.map PyData.int) = false := by
    intro ns
    induction ns with
    | nil => rfl
    | cons n ns ih => exact ih
  have h3 : ∀ ns : List Int, (∀ n ∈ ns, 0 ≤ n ∧ n ≤ 50) → PyData.intsShortAll 13 (ns.map PyData.int) = true := by
    intro ns
    induction ns with
    | nil => exact fun _ => rfl
    | cons n ns ih =>
      intro h
      rw [List.map_cons]
      show (PyData.intsShort 13 (.int n) && PyData.intsShortAll 13 (ns.map PyData.int)) = true
      rw [ih fun m hm => h m (List.mem_cons_of_mem _ hm), Bool.and_true]
      have hn := h n List.mem_cons_self
      have := shown50 n.toNat (List.mem_range.mpr (by omega))
      rw [Int.toNat_of_nonneg hn.1] at this
      exact decide_eq_true this
  have h4 : ∀ ns : List Int, (∀ n ∈ ns, 0 ≤ n ∧ n ≤ 50) → PyData.weightAll (ns.map PyData.int) ≤ 10 * ns.length := by
    intro ns
    induction ns with
    | nil => exact fun _ => Nat.le_refl _
    | cons n ns ih =>
      intro h
      rw [List.map_cons, List.length_cons]
      show PyData.weight (.int n) + 1 + PyData.weightAll (ns.map PyData.int) ≤ _
      have i := ih fun m hm => h m (List.mem_cons_of_mem _ hm)
      have hn := h n List.mem_cons_self
      have w : PyData.weight (.int n) ≤ 7 := by
        show (if n == 0 then 0 else n.natAbs.log2 + 1) ≤ 7
        split
        · omega
        · have : n.natAbs.log2 < 7 := PySem.Flt.log2_lt_of (by decide) (Nat.lt_of_le_of_lt (show n.natAbs ≤ 50 by omega) (by decide +kernel))
          omega
      omega
  refine ⟨h1 ns h, h2 ns, ?_, ?_⟩
  · have := tupI_shaped ns
    unfold SeqAt.shaped at this
    rw [Bool.and_eq_true] at this
    have e := of_decide_eq_true this.2
    have d := depth_ints ns
    show PyData.depthAll (ns.map PyData.int) + 1 ≤ 60
    omega
  · have hc : (tupI ns).canLay0 = true := canLay_ints ns
    have h5 := PyData.shown_le 13 (by decide) (tupI ns) (PyData.leavesShort_of_canLay0 13 _ hc (h3 ns h))
    have h6 : (tupI ns).weight ≤ 10 * ns.length := h4 ns h
    have := sizeLine_eq
    omega
theorem w_neD {K : PySem.W.Frag} {H : Hp} {Q : VK} {x y : V} {d e : PyData} {b : Bool} (hd : Dp K H x d) (he : Dp K H y e) (sd : SeqAt.shaped d = true) (se : SeqAt.shaped e = true) (h : PyData.eqv d e = b) (q : Q (.bl (!b)) H) : rNeD K x y H Q := ⟨d, e, hd, he, sd, se, by rw [h]; exact q⟩
theorem dp_tupI {K : PySem.W.Frag} {H : Hp} {a : Addr} {ns : List Int} (h : H a = some (.tup (ns.map V.int))) : Dp K H (.ref a) (tupI ns) := .tup (SqT.of h) (dpAll_ints ns)

end Pt_tupshow
section Pt_worst4
/-! ### worst.py: places and letters -/
theorem len_zero {S : Sg} (ok : SgOk S) : lenO S 0 = 0 := cnt_zero ok
theorem beg_zero {S : Sg} (ok : SgOk S) {sp : Option Nat} (h : SpAs S sp) : begO S sp 0 = 0 := by
  cases sp with
  | none => exact len_zero ok
  | some s =>
    obtain ⟨hk, _⟩ := h s rfl
    have lim := ok.lim
    rw [hk] at lim
    have l1 : 0 ≤ S.ln := lim.1
    show sumF (capB S.q s) 1 (min 0 S.ln) + max 0 (0 - S.ln) * s = 0
    rw [show min 0 S.ln = 0 by omega, show max 0 (0 - S.ln) = 0 by omega, sumF_nil (Int.le_refl 0), Int.zero_mul]
    rfl
theorem most_one {S : Sg} (ok : SgOk S) {n r : Int} (h : MostR S n r) (h1 : 1 ≤ n) : 1 ≤ r := by
  obtain ⟨r0, _, _, h4⟩ := h
  have lim := ok.lim
  rcases Int.lt_or_le r 1 with c | c
  · have : r = 0 := by omega
    subst this
    have e : leastO S 1 = 1 := by
      show (if (1 : Int) = 0 then 0 else lenO S (1 - 1) + 1) = 1
      rw [if_neg (by decide), show (1 : Int) - 1 = 0 from rfl, len_zero ok]
      rfl
    have := h4 1 (by omega) fun el => by
      rw [loose_k el] at lim
      have : 0 ≤ S.ln := lim.1
      omega
    omega
  · exact c
def spWstPlace (K : PySem.W.Frag) : Sp := fun vs H Q _ => ∃ x S n r sp k, vs = [.ref x, .int k] ∧ WstAt K H x S n r sp ∧ SgOk S ∧ SpAs S sp ∧ 1 ≤ r ∧ BigI r ∧ BigI k ∧
  ∀ (i : Nat) t H', (i : Int) < r → begO S sp i ≤ k → ((i : Int) + 1 < r → k < begO S sp (i + 1)) → Same H H' → H' t = some (.tup [.int (i : Nat), .int (k - begO S sp i)]) → Q (.ref t) H'
def spWorstPlace (K : PySem.W.Frag) : Sp := fun vs H Q _ => ∃ a S n k, vs = [.ref a, .int n, .int k] ∧ SetAt K H a S ∧ SgOk S ∧ BigI n ∧ 0 ≤ k ∧ k < n ∧ TellsW S n ∧
  ∀ r (i : Nat) t H', MostR S n r → (i : Int) < r → begO S (spO S r) i ≤ k → ((i : Int) + 1 < r → k < begO S (spO S r) (i + 1)) → Same H H' → H' t = some (.tup [.int (i : Nat), .int (k - begO S (spO S r) i)]) → Q (.ref t) H'
def spWorstLetter (K : PySem.W.Frag) : Sp := fun vs H Q _ => ∃ a S n k, vs = [.ref a, .int n, .int k] ∧ SetAt K H a S ∧ SgOk S ∧ BigI n ∧ 0 ≤ k ∧ k < n ∧ TellsW S n ∧
  ∀ r (i : Nat), MostR S n r → (i : Int) < r → begO S (spO S r) i ≤ k → ((i : Int) + 1 < r → k < begO S (spO S r) (i + 1)) → ∃ c, (wordO S (spO S r) i)[(k - begO S (spO S r) i).toNat]? = some c ∧ (wordO S (spO S r) i).length ≤ 100000 ∧ ∀ H', Same H H' → Q (.str (SX.S [c])) H'
local macro_rules | `(tactic| walk_at "cond") => `(tactic| first | exact two_div | (refine small_mul ?_ ?_ <;> omega) | (refine small_mul' ?_ ?_ <;> omega) | (refine small_div ?_ ?_ <;> omega))
set_option hygiene false in
local macro_rules | `(tactic| walk_at "st") => `(tactic| (with_reducible first | refine w_m1 ?_))
set_option hygiene false in
local macro_rules | `(tactic| walk_at "na") => `(tactic| first | exact T.na_wst_setting | exact T.na_wst_size | exact T.na_wst_codes | exact T.na_wst_spared)
set_option hygiene false in
local macro_rules | `(tactic| walk_at "cl") => `(tactic| exact T.cl_wst)
section
variable {P : Program} {w : World} {K : PySem.W.Frag} {mg : Str → Option Value} {base : Heap}
theorem d_Worst_place_of (T : Txt K mg) {f : Addr} (F : FA K "place_of" "Worst.place_of" s_Worst_place_of [] f) (c_Worst_begin_of : Fr P w K mg base 9 (He.ma K (He.ga K "Worst") "begin_of") ["self", "at"] [] (spWstBegin K)) : Fr P w K mg base 11 (f) ["self", "at"] [] (spWstPlace K) := by
  refine fr_of0 F (fun _ _ _ _ _ _ us hl => match us, hl with | [_, _], _ => rfl) sc_Worst_place_of (fun vs H Q E h => ?_) (fun fa cdv A outer s H vs Q E hr h => ?_)
  · obtain ⟨x, S, n, r, sp, k, rfl, _⟩ := h
    rfl
  · obtain ⟨x, S, n, r, sp, k, rfl, hW, ok, hsp, r1, hr2, hk, kk⟩ := h
    obtain ⟨k0, k1⟩ := hk
    obtain ⟨_, r2⟩ := hr2
    obtain ⟨dx, a, hx, hS⟩ := id hW
    refine ⟨_, PSs.nox (pss_cons (ps_par (i := 2) (j := 3) (by rfl) sc_Worst_place_of.nd rfl rfl (by decide) rfl rfl (pa_cons pe_int (pa_cons (pe_op op_sub (pe_fld (pv 0) rfl) pe_int) pa_nil)) (by rfl))
 (pss_cons (ps_while PassesOwn.never (pt_cmpR op_lt (pv 2) (pv 3) (nomark _))
 (pss_cons (ps_set (i := 4) sc_Worst_place_of.nd rfl (Or.inl rfl) (pe_op op_fdivW (pe_op op_add (pe_op op_add (pv 2) (pv 3)) pe_int) pe_int))
 (pss_one (ps_if (pt_cmpR op_le (pe_mt c_Worst_begin_of T.cl_wst T.mt_wst_begin_of hr (by decide) (pv 0) (pa_cons (pv 4) pa_nil)) (pv 1) (nomark _))
 (pss_one (ps_set (i := 2) sc_Worst_place_of.nd rfl (Or.inl rfl) (pv 4)))
 (pss_one (ps_set (i := 3) sc_Worst_place_of.nd rfl (Or.inl rfl) (pe_op op_sub (pv 4) pe_int)))))))
 (pss_one (ps_ret (pe_tup (pa_cons (pv 2) (pa_cons (pe_op op_sub (pv 1) (pe_mt c_Worst_begin_of T.cl_wst T.mt_wst_begin_of hr (by decide) (pv 0) (pa_cons (pv 2) pa_nil))) pa_nil))))))), ?_⟩
    refine w_start (σ := [some (.ref x), some (.int k), none, none, none]) rfl ?_
    repeat walk_at "st"
    with_reducible refine w_seq ?_
    refine ⟨fun t σ' H' => ∃ (lo hi : Int) (o : Option V), σ' = [some (.ref x), some (.int k), some (.int lo), some (.int hi), o] ∧ t = (hi - lo).toNat ∧ Same H H' ∧ 0 ≤ lo ∧ lo ≤ hi ∧ hi < r ∧ begO S sp lo ≤ k ∧ (hi + 1 < r → k < begO S sp (hi + 1)),
      ⟨_, 0, r - 1, none, rfl, rfl, Same.refl H, Int.le_refl _, by omega, by omega, by rw [beg_zero ok hsp]; exact k0, fun z => by omega⟩, ?_⟩
    rintro t σ' H' ⟨lo, hi, o, rfl, rfl, e, l0, lh, hir, hlo, hhi⟩
    have hx' := e _ _ hx
    repeat walk_at "st"
    refine w_ite (fun h1 => ?_) (fun h1 => ?_)
    · refine ⟨_, fun σ' H' h => h, ?_⟩
      repeat walk_at "st"
      have em : lo < (lo + hi + 1) / 2 ∧ (lo + hi + 1) / 2 ≤ hi := by omega
      obtain ⟨mid, hmid⟩ : ∃ x, x = (lo + hi + 1) / 2 := ⟨_, rfl⟩
      rw [← hmid] at em ⊢
      refine ⟨x, S, n, r, sp, mid, rfl, hW.same e, ok, hsp, ⟨by omega, by omega⟩, fun H1 e1 => ?_⟩
      repeat walk_at "st"
      refine w_ite (fun h2 => ?_) (fun h2 => ?_)
      · repeat walk_at "st"
        exact ⟨_, by omega, mid, hi, _, rfl, rfl, e.trans e1, by omega, by omega, hir, h2, hhi⟩
      · repeat walk_at "st"
        exact ⟨_, by omega, lo, mid - 1, _, rfl, rfl, e.trans e1, by omega, by omega, by omega, hlo, fun _ => by rw [show mid - 1 + 1 = mid by omega]; omega⟩
    · have : hi = lo := by omega
      subst this
      obtain ⟨i, rfl⟩ : ∃ i : Nat, hi = i := ⟨hi.toNat, by omega⟩
      repeat walk_at "st"
      refine ⟨x, S, n, r, sp, i, rfl, hW.same e, ok, hsp, ⟨by omega, by omega⟩, fun H1 e1 => ?_⟩
      repeat walk_at "st"
      refine ⟨by walk_at "len", fun t ht => ?_⟩
      exact kk i t _ hir hlo hhi (same_new (same_free (e.trans e1) ht) (e.trans e1)) upd_same
theorem d_worst_place (T : Txt K mg) (F : FD K mg "worst_place" s_worst_place) (c_worst_for : Dn P w K mg base 14 "worst_for" s_worst_for ["setting", "n", "at"] (spWorstFor K)) (c_Worst_place_of : Fr P w K mg base 11 (He.ma K (He.ga K "Worst") "place_of") ["self", "at"] [] (spWstPlace K)) : Dn P w K mg base 16 "worst_place" s_worst_place ["setting", "n", "k"] (spWorstPlace K) := by
  refine dn_of F (fun _ _ _ _ _ _ us hl => match us, hl with | [_, _, _], _ => rfl) sc_worst_place (fun vs H Q E h => ?_) (fun fa cdv A outer s H vs Q E hr h => ?_)
  · obtain ⟨a, S, n, k, rfl, _⟩ := h
    rfl
  · obtain ⟨a, S, n, k, rfl, hS, ok, hn, k0, kn, ht, kk⟩ := h
    obtain ⟨n0, n1⟩ := id hn
    refine ⟨_, PSs.nox (pss_cons (ps_set (i := 3) sc_worst_place.nd rfl (Or.inl rfl) (pe_d c_worst_for hr (by decide) rfl (pa_cons (pv 0) (pa_cons (pv 1) (pa_cons (pv 2) pa_nil)))))
 (pss_cons (ps_if (pt_cmpR op_ge (pv 2) (pv 1) (nomark _))
 (pss_one ps_never)
 pss_nil)
 (pss_one (ps_ret (pe_mt c_Worst_place_of T.cl_wst T.mt_wst_place_of hr (by decide) (pv 3) (pa_cons (pv 2) pa_nil)))))), ?_⟩
    refine w_start (σ := [some (.ref a), some (.int n), some (.int k), none]) rfl ?_
    repeat walk_at "st"
    refine ⟨a, S, n, k, rfl, hS, ok, hn, ⟨k0, by omega⟩, ht, fun x r H1 hr hle e1 hW => ?_⟩
    obtain ⟨dx, a', hx, hS'⟩ := id hW
    repeat walk_at "st"
    with_reducible refine w_seq ?_
    repeat walk_at "st"
    refine w_iteF (decide_eq_false (by omega)) ?_
    repeat walk_at "st"
    exact ⟨x, S, n, r, spO S r, k, rfl, hW, ok, spO_as ok r, most_one ok hr (by omega), ⟨hr.1, by omega⟩, ⟨k0, by omega⟩, fun i t H2 i1 i2 i3 e2 h2 => kk r i t H2 hr i1 i2 i3 (e1.trans e2) h2⟩
theorem d_worst_letter (T : Txt K mg) (F : FD K mg "worst_letter" s_worst_letter) (c_worst_for : Dn P w K mg base 14 "worst_for" s_worst_for ["setting", "n", "at"] (spWorstFor K)) (c_Worst_place_of : Fr P w K mg base 11 (He.ma K (He.ga K "Worst") "place_of") ["self", "at"] [] (spWstPlace K)) (c_Worst_whole_word : Fr P w K mg base 4 (He.ma K (He.ga K "Worst") "whole_word") ["self", "at"] [] (spWstWord K)) : Dn P w K mg base 16 "worst_letter" s_worst_letter ["setting", "n", "k"] (spWorstLetter K) := by
  refine dn_of F (fun _ _ _ _ _ _ us hl => match us, hl with | [_, _, _], _ => rfl) sc_worst_letter (fun vs H Q E h => ?_) (fun fa cdv A outer s H vs Q E hr h => ?_)
  · obtain ⟨a, S, n, k, rfl, _⟩ := h
    rfl
  · obtain ⟨a, S, n, k, rfl, hS, ok, hn, k0, kn, ht, kk⟩ := h
    obtain ⟨n0, n1⟩ := id hn
    have sz := sizeLine_eq
    refine ⟨_, PSs.nox (pss_cons (ps_set (i := 3) sc_worst_letter.nd rfl (Or.inl rfl) (pe_d c_worst_for hr (by decide) rfl (pa_cons (pv 0) (pa_cons (pv 1) (pa_cons (pv 2) pa_nil)))))
 (pss_cons (ps_if (pt_cmpR op_ge (pv 2) (pv 1) (nomark _))
 (pss_one ps_never)
 pss_nil)
 (pss_cons (ps_asg (pe_mt c_Worst_place_of T.cl_wst T.mt_wst_place_of hr (by decide) (pv 3) (pa_cons (pv 2) pa_nil)) (pg_tup rfl (pgs_cons (pg_name (i := 4) sc_worst_letter.nd rfl (Or.inl rfl)) (pgs_cons (pg_name (i := 5) sc_worst_letter.nd rfl (Or.inl rfl)) pgs_nil))))
 (pss_one (ps_ret (pe_ix ix_str (pe_mt c_Worst_whole_word T.cl_wst T.mt_wst_whole_word hr (by decide) (pv 3) (pa_cons (pv 4) pa_nil)) (pv 5) (fun _ _ => rfl))))))), ?_⟩
    refine w_start (σ := [some (.ref a), some (.int n), some (.int k), none, none, none]) rfl ?_
    repeat walk_at "st"
    refine ⟨a, S, n, k, rfl, hS, ok, hn, ⟨k0, by omega⟩, ht, fun x r H1 hr hle e1 hW => ?_⟩
    obtain ⟨dx, a', hx, hS'⟩ := id hW
    repeat walk_at "st"
    with_reducible refine w_seq ?_
    repeat walk_at "st"
    refine w_iteF (decide_eq_false (by omega)) ?_
    repeat walk_at "st"
    refine ⟨x, S, n, r, spO S r, k, rfl, hW, ok, spO_as ok r, most_one ok hr (by omega), ⟨hr.1, by omega⟩, ⟨k0, by omega⟩, fun i t H2 i1 i2 i3 e2 h2 => ?_⟩
    obtain ⟨c, c1, c2, kq⟩ := kk r i hr i1 i2 i3
    have hx2 := e2 _ _ hx
    repeat walk_at "st"
    refine ⟨x, S, n, r, spO S r, i, rfl, hW.same e2, ok, spO_as ok r, ⟨by omega, by omega⟩, fun H3 e3 => ?_⟩
    repeat walk_at "st"
    refine ⟨_, _, c, rfl, rfl, ?_, ?_, ?_⟩
    · rw [sx_len]
      omega
    · have hl := (List.getElem?_eq_some_iff.mp c1).1
      rw [show k - begO S (spO S r) (i : Nat) = (((k - begO S (spO S r) (i : Nat)).toNat : Nat) : Int) by omega]
      exact L2.atI_nat c1
    · exact kq H3 ((e1.trans e2).trans e3)
end

end Pt_worst4
section Pt_levobj
/-! ### Levels -/
abbrev cLev (K : PySem.W.Frag) : Addr := He.ga K "Levels"
def LevAt (K : PySem.W.Frag) (H : Hp) (x : Addr) (c l : Int) (L : List Int) : Prop := ∃ dx t, H x = some (.ins (cLev K) dx [("codes", .int c), ("letters", .int l), ("counts", .ref t)]) ∧ H t = some (.tup (L.map V.int))
theorem LevAt.same {K : PySem.W.Frag} {H H' : Hp} {x : Addr} {c l : Int} {L : List Int} (e : Same H H') (h : LevAt K H x c l L) : LevAt K H' x c l L := let ⟨dx, t, h, h2⟩ := h; ⟨dx, t, e _ _ h, e _ _ h2⟩
/-- how many of r codes but the last one have 1, 2, .. letters -/
def cntL (S : Sg) (r : Int) : List Int := if 1 < r then cntO S (r - 1) else []
def GoodL (L : List Int) : Prop := (∀ x ∈ L, 0 ≤ x) ∧ ∀ M y, L = M ++ [y] → 0 < y
theorem good_nil : GoodL [] := by
  refine ⟨fun x hx => (by cases hx), fun M y h => ?_⟩
  cases M with
  | nil => cases h
  | cons a M => cases h
theorem good_pos {L : List Int} (h : ∀ x ∈ L, 1 ≤ x) : GoodL L := ⟨fun x hx => by have := h x hx; omega, fun M y e => by have := h y (by rw [e]; simp); omega⟩
theorem good_map {L : List Int} {k : Int} (h : GoodL L) (hk : 1 ≤ k) : GoodL (L.map fun x => x * k) := by
  obtain ⟨h1, h2⟩ := h
  refine ⟨fun x hx => ?_, fun M y e => ?_⟩
  · obtain ⟨z, hz, rfl⟩ := List.mem_map.mp hx
    exact Int.mul_nonneg (h1 z hz) (by omega)
  · obtain ⟨A, B, rfl, e1, e2⟩ := List.map_eq_append_iff.mp e
    obtain ⟨b, rfl, rfl⟩ := List.map_eq_singleton_iff.mp e2
    exact Int.mul_pos (h2 A b rfl) (by omega)
theorem good_zero {n : Nat} {x : Int} (h : 0 < x) : GoodL (List.replicate n 0 ++ [x]) := by
  refine ⟨fun y hy => ?_, fun M y e => ?_⟩
  · rcases List.mem_append.mp hy with hy | hy
    · rw [(List.mem_replicate.mp hy).2]
      exact Int.le_refl _
    · rw [List.mem_singleton.mp hy]
      omega
  · have := (List.append_inj' e rfl).2
    cases this
    exact h
theorem good_add : ∀ {L M : List Int}, GoodL L → GoodL M → GoodL (addO L M)
  | [], M, _, hM => by rw [addO]; exact hM
  | x :: L, [], hL, _ => by simp only [addO]; exact hL
  | x :: L, y :: M, hL, hM => by
    have tl : ∀ {z : Int} {N : List Int}, GoodL (z :: N) → GoodL N := fun {z N} h => ⟨fun w hw => h.1 w (List.mem_cons_of_mem _ hw), fun A b e => h.2 (z :: A) b (by rw [e]; rfl)⟩
    have ih := good_add (tl hL) (tl hM)
    have x0 := hL.1 x List.mem_cons_self
    have y0 := hM.1 y List.mem_cons_self
    rw [addO]
    refine ⟨fun w hw => ?_, fun A b e => ?_⟩
    · rcases List.mem_cons.mp hw with rfl | hw
      · omega
      · exact ih.1 w hw
    · cases A with
      | nil =>
        injection e with e1 e2
        have hn : L = [] ∧ M = [] := by
          cases L with
          | nil => exact ⟨rfl, by rw [addO] at e2; exact e2⟩
          | cons a L => cases M with
            | nil => exact absurd e2 (by simp [addO])
            | cons c M => exact absurd e2 (by rw [addO]; exact fun z => by cases z)
        have := hL.2 [] x (by rw [hn.1]; rfl)
        omega
      | cons a A =>
        injection e with e1 e2
        exact ih.2 A b e2
theorem add_sum : ∀ L M : List Int, (addO L M).sum = L.sum + M.sum
  | [], M => by rw [addO]; simp
  | x :: L, [] => by simp [addO]
  | x :: L, y :: M => by
    rw [addO, List.sum_cons, List.sum_cons, List.sum_cons, add_sum L M]
    omega
theorem mul_sum (k : Int) : ∀ L : List Int, (L.map fun x => x * k).sum = L.sum * k
  | [] => by simp
  | x :: L => by rw [List.map_cons, List.sum_cons, List.sum_cons, mul_sum k L, Int.add_mul]
theorem fill_good {c : Nat → Int} (hc : ∀ d, 1 ≤ c d) {d : Nat} {l : Int} : GoodL (fill c d l) := good_pos (fill_pos hc l.toNat d l (Nat.le_refl _))
theorem cnt_good {S : Sg} (ok : SgOk S) {m : Int} (h0 : 0 ≤ m) : GoodL (cntO S m) ∧ (cntO S m).sum = m := by
  have lim := ok.lim
  have f1 := first_pos ok
  have q1 := ok.q1
  have hc := freeC_pos ok
  have fs : ∀ {c : Nat → Int} (hc : ∀ d, 1 ≤ c d) {l : Int}, 0 ≤ l → (fill c 1 l).sum = l := fun {c} hc {l} hl => fill_sum hc l.toNat 1 l (Nat.le_refl _) hl
  unfold cntO
  cases hk : S.lk with
  | free => exact ⟨fill_good hc, fs hc h0⟩
  | short =>
    have hs : ∀ d, 1 ≤ capS (firstO S) S.q S.ln d := capS_pos (by omega) (by omega)
    exact ⟨fill_good hs, fs hs h0⟩
  | cleared =>
    rw [hk] at lim
    have l1 : 1 ≤ S.ln := lim.1
    show GoodL (if S.ln ≤ m then _ else _) ∧ (if S.ln ≤ m then _ else _ : List Int).sum = _
    by_cases c : S.ln ≤ m
    · rw [if_pos c]
      have d1 : 1 ≤ m / S.ln := (Int.le_ediv_iff_mul_le (by omega)).mpr (by omega)
      refine ⟨good_add (good_map (fill_good hc) d1) (fill_good hc), ?_⟩
      rw [add_sum, mul_sum, fs hc (by omega), fs hc (Int.emod_nonneg _ (by omega))]
      exact Int.mul_ediv_add_emod m S.ln
    · rw [if_neg c]
      exact ⟨fill_good hc, fs hc h0⟩
  | standing =>
    rw [hk] at lim
    have l1 : 0 ≤ S.ln := lim.1
    show GoodL (if m ≤ S.ln then _ else if S.hid = true then _ else _) ∧ (if m ≤ S.ln then _ else if S.hid = true then _ else _ : List Int).sum = _
    by_cases c : m ≤ S.ln
    · rw [if_pos c]
      exact ⟨fill_good hc, fs hc h0⟩
    · rw [if_neg c]
      split
      · exact ⟨good_pos fun x hx => by rw [List.mem_singleton.mp hx]; omega, by simp⟩
      · have s1 := (fmin_spec (costO S m) (deepO S) (by unfold deepO; omega)).1
        have hb := capB_pos (q := (S.q : Int)) (by omega) s1
        refine ⟨good_add (fill_good hb) (good_zero (by omega)), ?_⟩
        show (addO (fill (capB S.q (spF S m)) 1 S.ln) (List.replicate (spF S m - 1) 0 ++ [m - S.ln])).sum = m
        rw [add_sum, fs (c := capB S.q (spF S m)) hb l1, List.sum_append, rep_sum]
        simp
        omega
theorem cntL_good {S : Sg} (ok : SgOk S) {r : Int} : GoodL (cntL S r) ∧ (1 ≤ r → (cntL S r).sum = r - 1) ∧ (1 ≤ r → letO 1 (cntL S r) + 1 = leastO S r) := by
  unfold cntL
  by_cases c : 1 < r
  · rw [if_pos c]
    obtain ⟨a, b⟩ := cnt_good ok (m := r - 1) (by omega)
    refine ⟨a, fun _ => b, fun _ => ?_⟩
    unfold leastO
    rw [if_neg (by omega)]
    rfl
  · rw [if_neg c]
    refine ⟨good_nil, fun h => by simp; omega, fun h => ?_⟩
    have : r = 1 := by omega
    subst this
    unfold leastO
    rw [if_neg (by decide), show (1 : Int) - 1 = 0 from rfl, len_zero ok]
    rfl
theorem cntL_len {S : Sg} (ok : SgOk S) {r : Int} (h : r ≤ 1000000000000000000000000000001) : (cntL S r).length ≤ 10000 := by
  unfold cntL
  split
  · exact cnt_len ok (by omega)
  · exact Nat.zero_le _
def spLevInit (K : PySem.W.Frag) : Sp := fun vs H Q _ => ∃ x dx c l t, vs = [.ref x, .int c, .int l, .ref t] ∧ H x = some (.ins (cLev K) dx []) ∧
  ∀ H', (∀ b w, b ≠ x → H b = some w → H' b = some w) → H' x = some (.ins (cLev K) dx [("codes", .int c), ("letters", .int l), ("counts", .ref t)]) → Q .non H'
def spLevels (K : PySem.W.Frag) : Sp := fun vs H Q _ => ∃ a S z, vs = [.ref a, .int z] ∧ SetAt K H a S ∧ SgOk S ∧ BigI z ∧ TellsM S z ∧ ∀ r x H', MostR S z r → Same H H' → LevAt K H' x r (leastO S r) (cntL S r) → Q (.ref x) H'
theorem w_then {σ : L2.St} {H : Hp} {Q : VK} {ta : TE} {k : V → Hp → VK → Prop} (q : ta σ H fun x H1 => k x H1 Q) : tThen ta k σ H Q := q
set_option hygiene false in
local macro_rules | `(tactic| walk_at "st") => `(tactic| (with_reducible first | refine w_then ?_))
set_option hygiene false in
local macro_rules | `(tactic| walk_at "na") => `(tactic| first | exact T.na_lvs_codes | exact T.na_lvs_letters | exact T.na_lvs_counts)
set_option hygiene false in
local macro_rules | `(tactic| walk_at "cl") => `(tactic| exact T.cl_lvs)
section
variable {P : Program} {w : World} {K : PySem.W.Frag} {mg : Str → Option Value} {base : Heap}
theorem d_Levels___init__ (T : Txt K mg) {f : Addr} (F : FA K "__init__" "Levels.__init__" s_Levels___init__ [] f) : Fr P w K mg base 1 (f) ["self", "codes", "letters", "counts"] [] (spLevInit K) := by
  refine fr_of0 F (fun _ _ _ _ _ _ us hl => match us, hl with | [_, _, _, _], _ => rfl) sc_Levels___init__ (fun vs H Q E h => ?_) (fun fa cdv A outer s H vs Q E hr h => ?_)
  · obtain ⟨x, dx, c, l, t, rfl, _⟩ := h
    rfl
  · obtain ⟨x, dx, c, l, t, rfl, hx, k⟩ := h
    refine ⟨_, PSs.nox (pss_cons (ps_fld (pv 0) (pv 1) rfl)
 (pss_cons (ps_fld (pv 0) (pv 2) rfl)
 (pss_one (ps_fld (pv 0) (pv 3) rfl)))), ?_⟩
    refine w_start (σ := [some (.ref x), some (.int c), some (.int l), some (.ref t)]) rfl ?_
    repeat walk_at "st"
    refine k _ (fun b w hb hw => ?_) ?_
    · simp only [upd_ne hb]
      exact hw
    · rw [upd_same]
      rfl
theorem d_levels (T : Txt K mg) (F : FD K mg "levels" s_levels) (c_most : Dn P w K mg base 14 "most" s_most ["setting", "n"] (spMost K)) (c_counts_for : Dn P w K mg base 7 "counts_for" s_counts_for ["setting", "many"] (spCounts K)) (c_least_of : Dn P w K mg base 8 "least_of" s_least_of ["setting", "codes"] (spLeast K)) (c_Levels___init__ : Fr P w K mg base 1 (He.ma K (He.ga K "Levels") "__init__") ["self", "codes", "letters", "counts"] [] (spLevInit K)) : Dn P w K mg base 16 "levels" s_levels ["setting", "n"] (spLevels K) := by
  refine dn_of F (fun _ _ _ _ _ _ us hl => match us, hl with | [_, _], _ => rfl) sc_levels (fun vs H Q E h => ?_) (fun fa cdv A outer s H vs Q E hr h => ?_)
  · obtain ⟨a, S, z, rfl, _⟩ := h
    rfl
  · obtain ⟨a, S, z, rfl, hS, ok, hz, tm, k⟩ := h
    obtain ⟨z0, z1⟩ := id hz
    refine ⟨_, PSs.nox (pss_cons (ps_set (i := 2) sc_levels.nd rfl (Or.inl rfl) (pe_d c_most hr (by decide) rfl (pa_cons (pv 0) (pa_cons (pv 1) pa_nil))))
 (pss_cons (ps_set (i := 3) sc_levels.nd rfl (Or.inl rfl) (pe_ifExp (pt_cmpR op_gt (pv 2) pe_int (nomark _)) (pe_d c_counts_for hr (by decide) rfl (pa_cons (pv 0) (pa_cons (pe_op op_sub (pv 2) pe_int) pa_nil))) (pe_lst pa_nil)))
 (pss_one (ps_ret (pe_mk c_Levels___init__ T.mk_lvs T.gc_lvs hr (by decide) rfl (pa_cons (pv 2) (pa_cons (pe_d c_least_of hr (by decide) rfl (pa_cons (pv 0) (pa_cons (pv 2) pa_nil))) (pa_cons (pe_tupleOf (by rfl) T.n_tuple (pv 3)) pa_nil)))))))), ?_⟩
    refine w_start (σ := [some (.ref a), some (.int z), none, none]) rfl ?_
    repeat walk_at "st"
    refine ⟨a, S, z, rfl, hS, ok, hz, tm, fun r H1 hr e1 => ?_⟩
    have rz : r ≤ z := by
      obtain ⟨r0, rl, rle, _⟩ := hr
      have := least_ge ok (c := r) r0 rl
      omega
    have r0 := hr.1
    have fin : ∀ (p : Addr) (H2 : Hp), Same H H2 → H2 p = some (.lst ((cntL S r).map V.int)) → ∀ H3, Same H2 H3 → ∀ t, H3 t = none → ∀ x dx, upd H3 t (.tup ((cntL S r).map V.int)) x = none → upd H3 t (.tup ((cntL S r).map V.int)) dx = none → dx ≠ x →
        spLevInit K [.ref x, .int r, .int (leastO S r), .ref t] (upd (upd (upd H3 t (.tup ((cntL S r).map V.int))) dx (.own x)) x (.ins (cLev K) dx [])) (fun v H4 => v = .non ∧ Q (.ref x) H4) E0 := by
      intro p H2 e2 hp H3 e3 t ht x dx hx hdx ne
      refine ⟨x, dx, r, _, t, rfl, upd_same, fun H4 kp hx4 => ⟨rfl, k r x H4 hr ?_ ⟨dx, t, hx4, ?_⟩⟩⟩
      · intro b w hb
        have h3 := same_new (o := .tup ((cntL S r).map V.int)) (same_free (e2.trans e3) ht) (e2.trans e3) b w hb
        exact kp b w (ne_of_none h3 hx) (same_two hx hdx b w h3)
      · exact kp t _ (fun z => by rw [z] at hx; rw [← z, upd_same] at hx; cases hx) (same_two hx hdx t _ upd_same)
    repeat walk_at "st"
    refine w_ite (fun c => ?_) (fun c => ?_)
    · have ec : cntO S (r - 1) = cntL S r := (if_pos c).symm
      repeat walk_at "st"
      refine ⟨a, S, r - 1, rfl, hS.same e1, ok, by omega, by show r - 1 ≤ _; omega, fun p1 H2 hp e2 f2 => ?_⟩
      rw [ec] at f2
      repeat walk_at "st"
      refine ⟨a, S, r, rfl, (hS.same e1).same e2, ok, r0, by show r ≤ _; omega, fun H3 e3 => ?_⟩
      repeat walk_at "st"
      refine .inl ⟨p1, _, rfl, SqL.of (e3 _ _ f2), fun t ht => ?_⟩
      repeat walk_at "st"
      exact fin p1 H2 (e1.trans e2) f2 H3 e3 t ht
    · have ec : ([] : List Int) = cntL S r := (if_neg c).symm
      repeat walk_at "st"
      refine ⟨by walk_at "len", fun p1 hp => ?_⟩
      have e2 := same_new (o := .lst []) hp (Same.refl H1)
      have f2 : upd H1 p1 (.lst []) p1 = some (.lst ((cntL S r).map V.int)) := by rw [← ec]; exact upd_same
      generalize upd H1 p1 (.lst []) = H2 at e2 f2 ⊢
      repeat walk_at "st"
      refine ⟨a, S, r, rfl, (hS.same e1).same e2, ok, r0, by show r ≤ _; omega, fun H3 e3 => ?_⟩
      repeat walk_at "st"
      refine .inl ⟨p1, _, rfl, SqL.of (e3 _ _ f2), fun t ht => ?_⟩
      repeat walk_at "st"
      exact fin p1 H2 (e1.trans e2) f2 H3 e3 t ht
end

end Pt_levobj
section Pt_looklv
/-! ### look_levels.py -/
def spAreC (K : PySem.W.Frag) : Sp := fun vs H Q _ => ∃ t L, vs = [.ref t] ∧ H t = some (.tup (L.map V.int)) ∧ GoodL L ∧ L.length ≤ 10000 ∧ ∀ H', Same H H' → Q (.bl true) H'
def spIsLast (K : PySem.W.Frag) : Sp := fun vs H Q _ => ∃ a S r z, vs = [.ref a, .int r, .int z] ∧ SetAt K H a S ∧ SgOk S ∧ BigI z ∧ r ≤ z ∧ MostR S z r ∧ ∀ H', Same H H' → Q (.bl true) H'
def spShows (K : PySem.W.Frag) : Sp := fun vs H Q _ => ∃ a S z x r, vs = [.ref a, .int z, .ref x] ∧ SetAt K H a S ∧ SgOk S ∧ BigI z ∧ TellsM S z ∧ MostR S z r ∧ LevAt K H x r (leastO S r) (cntL S r) ∧ ∀ H', Same H H' → Q (.bl true) H'
theorem lc_tupF {K : PySem.W.Frag} {σ : L2.St} {H : Hp} {Q : VK} {ts te : TE} {k : Nat} {vs : List Nat} {a : Addr} {xs : List V} (f : V → V) (h : H a = some (.tup xs)) (hts : ∀ R : VK, R (.ref a) H → ts σ H R) (hl : xs.length ≤ sizeLine)
    (hel : ∀ y ∈ xs, ∀ H', Same H H' → ∀ R : VK, (∀ H'', Same H' H'' → R (f y) H'') → te ((wipe σ vs).set k (some y)) H' R)
    (q : ∀ D H', H D = none → Same H H' → H' D = some (.lst (xs.map f)) → Q (.ref D) H') (hw : ∀ v, wipe ((wipe σ vs).set k (some v)) vs = wipe σ vs := by intro _; rfl) :
    tLc (iTup K ts) (gName k) tYes te vs σ H Q := w_lc (hts _ ⟨a, rfl, ⟨xs, SqT.of h⟩, lcI_map f (pureIt_tup (SqT.of h)) hl hel q hw⟩)
set_option hygiene false in
local macro_rules | `(tactic| walk_at "na") => `(tactic| first | exact T.na_lvs_codes | exact T.na_lvs_letters | exact T.na_lvs_counts)
set_option hygiene false in
local macro_rules | `(tactic| walk_at "cl") => `(tactic| exact T.cl_lvs)
section
variable {P : Program} {w : World} {K : PySem.W.Frag} {mg : Str → Option Value} {base : Heap}
theorem d_are_counts (T : Txt K mg) (F : FD K mg "are_counts" s_are_counts) (c_is_int : Dn P w K mg base 1 "is_int" s_is_int ["value"] (spIsInt)) : Dn P w K mg base 2 "are_counts" s_are_counts ["value"] (spAreC K) := by
  refine dn_of F (fun _ _ _ _ _ _ us hl => match us, hl with | [_], _ => rfl) sc_are_counts (fun vs H Q E h => ?_) (fun fa cdv A outer s H vs Q E hr h => ?_)
  · obtain ⟨t, L, rfl, _⟩ := h
    rfl
  · obtain ⟨t, L, rfl, ht, hg, hl, k⟩ := h
    have sz := sizeLine_eq
    refine ⟨_, PSs.nox (pss_cons (ps_if (PW.pt (pw_or (pt_not (pt_val (pe_callB call_isi (by rfl) T.n_isinstance (by decide +kernel) (pa_cons (pv 0) (pa_cons (pe_bltn (v := .ty "tuple") (by rfl) T.n_tuple (by decide +kernel) rfl) pa_nil))) (by intro _; rfl))) (pw_or1 (pt_not (pt_val (pe_callB (cr_all rfl) (by rfl) T.n_all (by decide +kernel) (pa_cons (pe_lc (own := [("number", 1)]) (tt := tYes) (g := gName 1) rfl sc_are_counts.nd (pi_tup (pv 0)) (blkOk_by (N := ["value", "number"]) (sc := defScope s_are_counts) (by decide +kernel)) (fun _ _ _ _ _ => (pg_name (i := 1) sc_are_counts.nd rfl (Or.inl rfl))) (fun _ _ _ _ _ => pts_nil) (fun _ _ _ _ _ => (pe_and (pe_d c_is_int hr (by decide) rfl (pa_cons (pv 1) pa_nil)) (pe_one (pe_cmpR op_ge (pv 1) pe_int (nomark _)))))) pa_nil)) (by intro _; rfl))))))
 (pss_one (ps_ret pe_bl))
 pss_nil)
 (pss_one (ps_ret (pe_or (pe_cmpR (op_eqD hr.units) (pv 0) (pe_tup pa_nil) (nomark _)) (pe_one (pe_cmpR op_gt (pe_ix ix_tup (pv 0) (pe_un un_neg pe_int) (fun _ _ => rfl)) pe_int (nomark _))))))), ?_⟩
    refine w_start (σ := [some (.ref t), none]) rfl ?_
    with_reducible refine w_seq ?_
    repeat walk_at "st"
    refine w_isi (k := true) (.tup ht) (kit_ty (by decide +kernel)) ?_
    repeat walk_at "st"
    refine lc_tupF (fun _ => .bl true) ht (fun R hR => ?_) (by rw [List.length_map]; omega) (fun y hy H' e R hR => ?_) fun D H1 hD e1 f1 => ?_
    · repeat walk_at "st"
      exact hR
    · simp only [wipe, List.map, List.set]
      obtain ⟨x, hx, rfl⟩ := List.mem_map.mp hy
      have x0 := hg.1 x hx
      repeat walk_at "st"
      refine ⟨.int x, "int", rfl, .int x, ?_⟩
      repeat walk_at "st"
      rw [decide_eq_true x0]
      exact hR H' (Same.refl _)
    have f1 : H1 D = some (.lst ((List.replicate L.length true).map V.bl)) := by
      rw [f1, List.map_map, List.map_replicate]
      exact congrArg (fun z => some (HO.lst z)) (List.eq_replicate_iff.mpr ⟨by rw [List.length_map], fun y hy => by
        obtain ⟨z, _, rfl⟩ := List.mem_map.mp hy
        rfl⟩)
    repeat walk_at "st"
    refine ⟨D, _, rfl, SqL.of f1, ?_⟩
    rw [show (List.replicate L.length true).all id = true by rw [List.all_eq_true]; exact fun y hy => (List.mem_replicate.mp hy).2]
    have ht1 := e1 _ _ ht
    repeat walk_at "st"
    refine ⟨by walk_at "len", fun t2 ht2 => ?_⟩
    have e2 := same_new (o := .tup []) (same_free e1 ht2) e1
    have ht2' := same_new (o := .tup []) ht2 (Same.refl H1) _ _ ht1
    refine w_eqD (b := decide (L = [])) (d := tupI L) (e := .tuple []) (dp_tupI ht2') (dp_tupI (ns := []) upd_same) (tupI_shaped L) rfl (by cases L <;> rfl) ?_
    generalize upd H1 t2 (.tup []) = H2 at e2 ht2' ⊢
    repeat walk_at "st"
    refine w_ite (fun c => ?_) (fun c => ?_)
    · exact k H2 e2
    · obtain ⟨M, y, rfl⟩ : ∃ M y, L = M ++ [y] := by
        rcases List.eq_nil_or_concat L with z | ⟨M, y, z⟩
        · exact absurd z c
        · exact ⟨M, y, by rw [z, List.concat_eq_append]⟩
      have y0 := hg.2 M y rfl
      repeat walk_at "st"
      refine ⟨t, _, -1, .int y, rfl, rfl, SqT.of ht2', by rw [List.map_append]; exact L2.atI_last _ _, ?_⟩
      repeat walk_at "st"
      rw [decide_eq_true y0]
      exact k H2 e2
theorem d_is_last (T : Txt K mg) (F : FD K mg "is_last" s_is_last) (c_is_loose : Dn P w K mg base 3 "is_loose" s_is_loose ["setting"] (spLoose K)) (c_least_of : Dn P w K mg base 8 "least_of" s_least_of ["setting", "codes"] (spLeast K)) (c_set_limit : ∀ h : Bool, Fr P w K mg base 1 (gtA K (cSet K h) "limit") ["self"] [] (spSetLimit K h)) : Dn P w K mg base 10 "is_last" s_is_last ["setting", "codes", "n"] (spIsLast K) := by
  refine dn_of F (fun _ _ _ _ _ _ us hl => match us, hl with | [_, _, _], _ => rfl) sc_is_last (fun vs H Q E h => ?_) (fun fa cdv A outer s H vs Q E hr h => ?_)
  · obtain ⟨a, S, r, z, rfl, _⟩ := h
    rfl
  · obtain ⟨a, S, r, z, rfl, hS, ok, hz, rz, hM, k⟩ := h
    refine ⟨_, PSs.nox (pss_cons (ps_if (PW.pt (pw_and (pt_val (pe_d c_is_loose hr (by decide) rfl (pa_cons (pv 0) pa_nil)) (by intro _; rfl)) (pw_and1 (pt_cmpR op_eq (pv 1) (pe_op op_add (pe_fld (pe_any fun h => pe_pr (c_set_limit h) (T.cl_set h) (T.pr_limit h) hr (by decide) (pv 0)) rfl) pe_int) (nomark _)))))
 (pss_one (ps_ret pe_bl))
 pss_nil)
 (pss_one (ps_ret (pe_cmpR op_gt (pe_d c_least_of hr (by decide) rfl (pa_cons (pv 0) (pa_cons (pe_op op_add (pv 1) pe_int) pa_nil))) (pv 2) (nomark _))))), ?_⟩
    refine w_start (σ := [some (.ref a), some (.int r), some (.int z)]) rfl ?_
    have hS0 := hS
    obtain ⟨dx, l, ha, ⟨dl, hl⟩, q1, q2⟩ := hS
    obtain ⟨z0, z1⟩ := id hz
    obtain ⟨r0, rl, rle, rgt⟩ := hM
    with_reducible refine w_seq ?_
    repeat walk_at "st"
    refine ⟨a, S, rfl, hS0, ?_⟩
    cases el : looseB S with
    | false =>
      repeat walk_at "st"
      have g := rgt (r + 1) (by omega) fun el' => by rw [el] at el'; cases el'
      refine ⟨a, S, r + 1, rfl, hS0, ok, by omega, by show r + 1 ≤ _; omega, fun H1 e1 => ?_⟩
      repeat walk_at "st"
      rw [decide_eq_true g]
      exact k H1 e1
    | true =>
      have hk := loose_k el
      have lim := ok.lim
      rw [hk] at hl lim
      repeat walk_at "st"
      refine ⟨S.hid, ?_⟩
      repeat walk_at "st"
      refine ⟨a, dx, l, (S.q : Int), rfl, ha, ?_⟩
      repeat walk_at "st"
      refine w_ite (fun c => ?_) (fun c => ?_)
      · exact k H (Same.refl H)
      · repeat walk_at "st"
        have := rl el
        have : ¬ r = S.ln + 1 := fun z => c (by rw [z])
        have g := rgt (r + 1) (by omega) fun el' => by omega
        refine ⟨a, S, r + 1, rfl, hS0, ok, by omega, by show r + 1 ≤ _; omega, fun H1 e1 => ?_⟩
        repeat walk_at "st"
        rw [decide_eq_true g]
        exact k H1 e1
end

end Pt_looklv
section Pt_looklv2
/-! ### look_levels.py: shows_levels -/
set_option hygiene false in
local macro_rules | `(tactic| walk_at "na") => `(tactic| first | exact T.na_lvs_codes | exact T.na_lvs_letters | exact T.na_lvs_counts)
set_option hygiene false in
local macro_rules | `(tactic| walk_at "cl") => `(tactic| exact T.cl_lvs)
section
variable {P : Program} {w : World} {K : PySem.W.Frag} {mg : Str → Option Value} {base : Heap}
theorem d_shows_levels (T : Txt K mg) (F : FD K mg "shows_levels" s_shows_levels) (c_need_setting : Dn P w K mg base 1 "need_setting" s_need_setting ["value", "part"] (spNeedSet K)) (c_need_size : Dn P w K mg base 4 "need_size" s_need_size ["value"] (spNeedSize)) (c_need_told_of : Dn P w K mg base 10 "need_told_of" s_need_told_of ["setting", "size"] (spNeedToldOf K)) (c_counts_for : Dn P w K mg base 7 "counts_for" s_counts_for ["setting", "many"] (spCounts K)) (c_are_counts : Dn P w K mg base 2 "are_counts" s_are_counts ["value"] (spAreC K)) (c_is_int : Dn P w K mg base 1 "is_int" s_is_int ["value"] (spIsInt)) (c_least_of : Dn P w K mg base 8 "least_of" s_least_of ["setting", "codes"] (spLeast K)) (c_is_last : Dn P w K mg base 10 "is_last" s_is_last ["setting", "codes", "n"] (spIsLast K)) (c_letters_in : Dn P w K mg base 1 "letters_in" s_letters_in ["counts"] (spLetIn)) : Dn P w K mg base 12 "shows_levels" s_shows_levels ["setting", "n", "value"] (spShows K) := by
  refine dn_of F (fun _ _ _ _ _ _ us hl => match us, hl with | [_, _, _], _ => rfl) sc_shows_levels (fun vs H Q E h => ?_) (fun fa cdv A outer s H vs Q E hr h => ?_)
  · obtain ⟨a, S, z, x, r, rfl, _⟩ := h
    rfl
  · obtain ⟨a, S, z, x, r, rfl, hS, ok, hz, tm, hM, hL, k⟩ := h
    obtain ⟨z0, z1⟩ := id hz
    have sz := sizeLine_eq
    obtain ⟨r0, rl, rle, rgt⟩ := id hM
    have rz : r ≤ z := by have := least_ge ok (c := r) r0 rl; omega
    obtain ⟨cg, csum, clet⟩ := cntL_good ok (r := r)
    have clen := cntL_len ok (r := r) (by omega)
    refine ⟨_, PSs.nox (pss_cons (ps_expr (pe_d c_need_setting hr (by decide) rfl (pa_cons (pv 0) (pa_cons pe_str pa_nil))))
 (pss_cons (ps_expr (pe_d c_need_size hr (by decide) rfl (pa_cons (pv 1) pa_nil)))
 (pss_cons (ps_expr (pe_d c_need_told_of hr (by decide) rfl (pa_cons (pv 0) (pa_cons (pv 1) pa_nil))))
 (pss_cons (ps_if (PW.pt (pw_or (pt_not (pt_val (pe_callB call_isi (by rfl) T.n_isinstance (by decide +kernel) (pa_cons (pv 2) (pa_cons (pe_gc (x := "Levels") rfl (T.gc_lvs)) pa_nil))) (by intro _; rfl))) (pw_or1 (pt_not (pt_val (pe_d c_are_counts hr (by decide) rfl (pa_cons (pe_fld (pv 2) rfl) pa_nil)) (by intro _; rfl))))))
 (pss_one (ps_ret pe_bl))
 pss_nil)
 (pss_cons (ps_if (PW.pt (pw_or (pt_not (pt_val (pe_d c_is_int hr (by decide) rfl (pa_cons (pe_fld (pv 2) rfl) pa_nil)) (by intro _; rfl))) (pw_or (pt_not (pt_val (pe_d c_is_int hr (by decide) rfl (pa_cons (pe_fld (pv 2) rfl) pa_nil)) (by intro _; rfl))) (pw_or1 (pt_not (pt_chain op_le op_le pe_int (pe_fld (pv 2) rfl) (pv 1)))))))
 (pss_one (ps_ret pe_bl))
 pss_nil)
 (pss_cons (ps_if (PW.pt (pw_or (pt_cmpR op_ne (pe_fld (pv 2) rfl) (pe_d c_least_of hr (by decide) rfl (pa_cons (pv 0) (pa_cons (pe_fld (pv 2) rfl) pa_nil))) (nomark _)) (pw_or (pt_cmpR op_gt (pe_fld (pv 2) rfl) (pv 1) (nomark _)) (pw_or1 (pt_not (pt_val (pe_d c_is_last hr (by decide) rfl (pa_cons (pv 0) (pa_cons (pe_fld (pv 2) rfl) (pa_cons (pv 1) pa_nil)))) (by intro _; rfl)))))))
 (pss_one (ps_ret pe_bl))
 pss_nil)
 (pss_cons (ps_if (pt_cmpR op_lt (pe_fld (pv 2) rfl) pe_int (nomark _))
 (pss_one (ps_ret (pe_cmpR (op_eqD hr.units) (pe_fld (pv 2) rfl) (pe_tup pa_nil) (nomark _))))
 pss_nil)
 (pss_cons (ps_if (PW.pt (pw_or (pt_cmpR op_ne (pe_callB (cr_sum rfl) (by rfl) T.n_sum (by decide +kernel) (pa_cons (pe_lc (own := [("number", 3)]) (tt := tYes) (g := gName 3) rfl sc_shows_levels.nd (pi_tup (pe_fld (pv 2) rfl)) (blkOk_by (N := ["setting", "n", "value", "number"]) (sc := defScope s_shows_levels) (by decide +kernel)) (fun _ _ _ _ _ => (pg_name (i := 3) sc_shows_levels.nd rfl (Or.inl rfl))) (fun _ _ _ _ _ => pts_nil) (fun _ _ _ _ _ => (pv 3))) pa_nil)) (pe_op op_sub (pe_fld (pv 2) rfl) pe_int) (nomark _)) (pw_or1 (pt_cmpR op_ne (pe_op op_add (pe_d c_letters_in hr (by decide) rfl (pa_cons (pe_fld (pv 2) rfl) pa_nil)) pe_int) (pe_fld (pv 2) rfl) (nomark _)))))
 (pss_one (ps_ret pe_bl))
 pss_nil)
 (pss_one (ps_ret (pe_cmpR (op_eqD hr.units) (pe_callTy cl_listOf (by rfl) T.n_list (by decide +kernel) (pa_cons (pe_fld (pv 2) rfl) pa_nil)) (pe_d c_counts_for hr (by decide) rfl (pa_cons (pv 0) (pa_cons (pe_op op_sub (pe_fld (pv 2) rfl) pe_int) pa_nil))) (nomark _)))))))))))), ?_⟩
    refine w_start (σ := [some (.ref a), some (.int z), some (.ref x), none]) rfl ?_
    repeat walk_at "st"
    refine ⟨a, S, _, rfl, hS, ?_⟩
    repeat walk_at "st"
    refine ⟨z, rfl, z0, z1, ?_⟩
    repeat walk_at "st"
    refine ⟨a, S, z, rfl, hS, ok, tm, fun H1 e1 => ?_⟩
    have hS1 := hS.same e1
    obtain ⟨dx, t, hx1, ht1⟩ := hL.same e1
    repeat walk_at "st"
    with_reducible refine w_seq ?_
    repeat walk_at "st"
    refine w_isaB hx1 T.cl_lvs T.isa_lvs ?_
    repeat walk_at "st"
    refine ⟨t, _, rfl, ht1, cg, clen, fun H2 e2 => ?_⟩
    have hS2 := hS1.same e2
    have hx2 := e2 _ _ hx1
    have ht2 := e2 _ _ ht1
    repeat walk_at "st"
    with_reducible refine w_seq ?_
    repeat walk_at "st"
    refine ⟨.int r, "int", rfl, .int r, ?_⟩
    repeat walk_at "st"
    refine ⟨.int _, "int", rfl, .int _, ?_⟩
    repeat walk_at "st"
    rw [decide_eq_true r0]
    repeat walk_at "st"
    rw [decide_eq_true rz]
    repeat walk_at "st"
    with_reducible refine w_seq ?_
    repeat walk_at "st"
    refine ⟨a, S, r, rfl, hS2, ok, r0, by show r ≤ _; omega, fun H3 e3 => ?_⟩
    have hS3 := hS2.same e3
    have hx3 := e3 _ _ hx2
    have ht3 := e3 _ _ ht2
    clear hx1 ht1 hS1 hx2 ht2 hS2
    repeat walk_at "st"
    rw [decide_eq_true (rfl : V.int (leastO S r) = V.int (leastO S r))]
    repeat walk_at "st"
    rw [decide_eq_false (show ¬ z < leastO S r by omega)]
    repeat walk_at "st"
    refine ⟨a, S, r, z, rfl, hS3, ok, hz, rz, hM, fun H4 e4 => ?_⟩
    have hS4 := hS3.same e4
    have hx4 := e4 _ _ hx3
    have ht4 := e4 _ _ ht3
    clear hx3 ht3 hS3
    repeat walk_at "st"
    with_reducible refine w_seq ?_
    repeat walk_at "st"
    refine w_ite (fun c => ?_) (fun c => ?_)
    · have el : cntL S r = [] := if_neg (by omega)
      rw [el] at ht4
      repeat walk_at "st"
      refine ⟨by walk_at "len", fun t2 hn2 => ?_⟩
      have f5 := same_new (o := .tup []) hn2 (Same.refl H4)
      refine w_eqD (b := true) (d := tupI []) (e := tupI []) (dp_tupI (f5 _ _ ht4)) (dp_tupI (ns := []) upd_same) rfl rfl (by decide) ?_
      exact k _ ((((‹Same H H1›.trans e2).trans e3).trans e4).trans f5)
    · have cs := csum (by omega)
      have cl := clet (by omega)
      have el : cntL S r = cntO S (r - 1) := if_pos (by omega)
      repeat walk_at "st"
      with_reducible refine w_seq ?_
      repeat walk_at "st"
      refine lc_tupF (fun x => x) ht4 (fun R hR => ?_) (by rw [List.length_map]; omega) (fun y hy H' e R hR => ?_) fun D H5 hD e5 f5 => ?_
      · repeat walk_at "st"
        exact hR
      · simp only [wipe, List.map, List.set]
        repeat walk_at "st"
        exact hR H' (Same.refl _)
      rw [List.map_id'] at f5
      have hS5 := hS4.same e5
      have hx5 := e5 _ _ hx4
      have ht5 := e5 _ _ ht4
      clear hx4 ht4 hS4
      repeat walk_at "st"
      refine ⟨D, _, rfl, SqL.of f5, ?_⟩
      rw [cs]
      repeat walk_at "st"
      rw [decide_eq_true (rfl : V.int (r - 1) = V.int (r - 1))]
      repeat walk_at "st"
      refine ⟨t, _, rfl, .inr ht5, clen, fun H6 e6 => ?_⟩
      have hS6 := hS5.same e6
      have hx6 := e6 _ _ hx5
      have ht6 := e6 _ _ ht5
      clear hx5 ht5 hS5
      repeat walk_at "st"
      rw [cl]
      rw [decide_eq_true (rfl : V.int (leastO S r) = V.int (leastO S r))]
      repeat walk_at "st"
      refine ⟨t, _, rfl, .inr (SqT.of ht6), fun l1 hl1 => ?_⟩
      have e7 := same_new (o := .lst ((cntL S r).map V.int)) hl1 (Same.refl H6)
      have f7 : upd H6 l1 (.lst ((cntL S r).map V.int)) l1 = some (.lst ((cntL S r).map V.int)) := upd_same
      generalize upd H6 l1 (.lst ((cntL S r).map V.int)) = H7 at e7 f7 ⊢
      have hx7 := e7 _ _ hx6
      repeat walk_at "st"
      refine ⟨a, S, r - 1, rfl, hS6.same e7, ok, by omega, by show r - 1 ≤ _; omega, fun p1 H8 hp e8 f8 => ?_⟩
      rw [← el] at f8
      refine w_eqD (b := true) (d := .list ((cntL S r).map PyData.int)) (e := .list ((cntL S r).map PyData.int)) (.lst (SqL.of (e8 _ _ f7)) (dpAll_ints _)) (.lst (SqL.of f8) (dpAll_ints _)) (shaped_ints _) (shaped_ints _) (by rw [SeqAt.eqv_refl _ ((Bool.and_eq_true_iff.mp (shaped_ints _)).1)]) ?_
      exact k _ (((((((‹Same H H1›.trans e2).trans e3).trans e4).trans e5).trans e6).trans e7).trans e8)
end

end Pt_looklv2
section Pt_numin
/-! ### numbers written and read again -/
theorem ok_num (n : Nat) (h : n ≤ 100000) : okL (TL.numL n) = true ∧ figL (TL.numL n) = TL.numL n := by
  have hf : figL (TL.numL n) = TL.numL n := by
    rcases fig_split (TL.numL n) with ⟨r, e, _⟩ | ⟨_, e, _⟩
    · exact absurd (by rw [e]; exact List.mem_cons_self) (numL_45 n)
    · exact e
  refine ⟨?_, hf⟩
  have hl : (TL.numL n).length ≤ 7 := by
    have := intL_len (n := (n : Int)) (k := 6) (by decide) (by rw [Int.natAbs_natCast]; omega)
    rw [intL_nat] at this
    exact this
  unfold okL
  rw [hf, decide_eq_false (TL.numL_ne n), decide_eq_true (Nat.le_trans hl (by decide))]
  show ((TL.numL n).all fun c => decide (c ∈ digL)) = true
  rw [List.all_eq_true]
  intro c hc
  have hc' : c ∈ intL (n : Int) := hc
  rcases intL_codes (n : Int) c hc' with e | e
  · rw [e] at hc
    exact absurd hc (numL_45 n)
  · exact decide_eq_true (dig_iff.mpr e)
theorem numO_num (n : Nat) (h : n ≤ 100000) : numO (intL (n : Int)) = some (n : Int) := by
  obtain ⟨ok, _⟩ := ok_num n h
  have hl : (TL.numL n).length ≤ 4300 := by
    have := intL_len (n := (n : Int)) (k := 6) (by decide) (by rw [Int.natAbs_natCast]; omega)
    rw [intL_nat] at this
    omega
  have h1 := (int_ok ok).1
  have h2 := TL.int_num hl
  rw [toString_S, intL_nat] at h2
  have e : valL (TL.numL n) = (n : Int) := Option.some.inj (h1.symm.trans h2)
  unfold numO
  rw [intL_nat, e, intL_nat, if_pos ⟨ok, rfl⟩]
theorem numV_num {n : Nat} {lo hi : Int} (h : n ≤ 100000) (h2 : lo ≤ n ∧ (n : Int) ≤ hi) : numV (intL (n : Int)) lo hi = .int n := numV_in (numO_num n h) h2
theorem numV_int {n lo hi : Int} (h0 : 0 ≤ n) (h : n ≤ 100000) (h2 : lo ≤ n ∧ n ≤ hi) : numV (intL n) lo hi = .int n := by
  obtain ⟨m, rfl⟩ : ∃ m : Nat, n = m := ⟨n.toNat, by omega⟩
  exact numV_num (by omega) h2
/-! ### settings as words -/
def kindL : Bool → Wd
  | true => [104, 105, 100, 100, 101, 110]
  | false => [116, 111, 108, 100]
def limL : LimK → Wd
  | .free => [102, 114, 101, 101]
  | .short => [115, 104, 111, 114, 116]
  | .cleared => [99, 108, 101, 97, 114, 101, 100]
  | .standing => [115, 116, 97, 110, 100, 105, 110, 103]
theorem kind_S (h : Bool) : setWord h = SX.S (kindL h) := by cases h <;> decide +kernel
theorem lim_S (k : LimK) : limW k = SX.S (limL k) := by cases k <;> decide +kernel
def limWs : LimK → Int → List Wd
  | .free, _ => [limL .free]
  | k, n => [limL k, intL n]
def wsOf (S : Sg) : List Wd := [kindL S.hid, intL S.q] ++ limWs S.lk S.ln
def textL (S : Sg) : Wd := TL.joinL [32] (wsOf S)
theorem int_32 (n : Int) : 32 ∉ intL n := fun h => by
  rcases intL_codes n 32 h with e | e
  · exact absurd e (by decide)
  · exact absurd e.1 (by decide)
theorem ws_32 (S : Sg) : ∀ p ∈ wsOf S, 32 ∉ p := by
  intro p hp
  have hk : 32 ∉ kindL S.hid := by cases S.hid <;> decide
  have hl : 32 ∉ limL S.lk := by cases S.lk <;> decide
  have lw : ∀ p ∈ limWs S.lk S.ln, p = limL S.lk ∨ p = intL S.ln := by
    intro p hp
    cases hk : S.lk <;> rw [hk] at hp <;> simp [limWs] at hp
    · exact .inl hp
    · exact hp
    · exact hp
    · exact hp
  rcases List.mem_append.mp hp with h | h
  · simp only [List.mem_cons, List.not_mem_nil, or_false] at h
    rcases h with rfl | rfl
    · exact hk
    · exact int_32 _
  · rcases lw p h with rfl | rfl
    · exact hl
    · exact int_32 _
theorem split_text (S : Sg) : Txt.split (SX.S (textL S)) " " = (wsOf S).map SX.S := by
  have e : (" " : Str) = SX.S [32] := rfl
  rw [e, SX.split_S (by decide) (by decide)]
  unfold textL
  rw [TL.spl_join (by unfold wsOf; simp) (ws_32 S)]
theorem cut_one {L : List Wd} {i : Nat} {w : Wd} (h : L[i]? = some w) : cutV (L.map strW) (some (i : Int)) (some ((i : Int) + 1)) = [strW w] := by
  have hi : i < L.length := (List.getElem?_eq_some_iff.mp h).1
  unfold cutV
  rw [HT.sIx_nat, show ((i : Int) + 1) = ((i + 1 : Nat) : Int) by omega, HT.sIx_nat, List.length_map, Nat.min_eq_left (by omega), Nat.min_eq_left (by omega), show i + 1 - i = 1 by omega]
  rw [List.take_one, List.head?_drop, List.getElem?_map, h]
  rfl

end Pt_numin
section Pt_read
/-! ### limit_at, setting_at, Setting.read -/
def spLimitAt (K : PySem.W.Frag) : Sp := fun vs H Q _ => ∃ p S, vs = [.ref p, .int 2] ∧ H p = some (.lst ((wsOf S).map strW)) ∧ limOk S.lk S.ln ∧ ∀ t l H', Same H H' → LimAt K H' l S.lk S.ln → H' t = some (.tup [.ref l, .int ((wsOf S).length : Nat)]) → Q (.ref t) H'
def spSettingAt (K : PySem.W.Frag) : Sp := fun vs H Q _ => ∃ p S, vs = [.ref p, .int 0] ∧ H p = some (.lst ((wsOf S).map strW)) ∧ limOk S.lk S.ln ∧ 2 ≤ S.q ∧ S.q ≤ 26 ∧ ∀ t a H', Same H H' → SetAt K H' a S → H' t = some (.tup [.ref a, .int ((wsOf S).length : Nat)]) → Q (.ref t) H'
def spSetRead (K : PySem.W.Frag) : Sp := fun vs H Q _ => ∃ C S, vs = [C, .str (SX.S (textL S))] ∧ limOk S.lk S.ln ∧ 2 ≤ S.q ∧ S.q ≤ 26 ∧ ∀ a H', Same H H' → SetAt K H' a S → Q (.ref a) H'
theorem join1 (w : Wd) : Txt.join (SX.S []) [SX.S w] = SX.S w := (SX.join_S [] [w]).trans rfl
theorem ws_at (S : Sg) : (wsOf S)[0]? = some (kindL S.hid) ∧ (wsOf S)[1]? = some (intL S.q) ∧ (wsOf S)[2]? = some (limL S.lk) := by
  unfold wsOf
  cases h : S.lk <;> exact ⟨rfl, rfl, rfl⟩
theorem ws_num (S : Sg) (h : S.lk ≠ .free) : (wsOf S)[3]? = some (intL S.ln) ∧ (wsOf S).length = 4 := by
  unfold wsOf
  cases hk : S.lk with
  | free => exact absurd hk h
  | _ => exact ⟨rfl, rfl⟩
theorem ws_free (S : Sg) (h : S.lk = .free) : (wsOf S).length = 3 := by
  unfold wsOf
  rw [h]
  rfl
theorem kind_len (h : Bool) : (kindL h).length ≤ 6 := by cases h <;> decide
theorem limL_len (k : LimK) : (limL k).length ≤ 8 := by cases k <;> decide
theorem intL_small {n : Int} (h0 : 0 ≤ n) (h : n ≤ 100000) : (intL n).length ≤ 7 := intL_len (k := 6) (by decide) (by omega)
theorem strEq (a b : Str) : decide (V.str a = V.str b) = decide (a = b) := by simp
theorem limEq (k j : LimK) : decide (V.str (limW k) = V.str (limW j)) = kEq k j := by cases k <;> cases j <;> decide +kernel
theorem kindEq (h j : Bool) : decide (V.str (setWord h) = V.str (setWord j)) = (h == j) := by cases h <;> cases j <;> decide +kernel
theorem inLim (k : LimK) : inV (V.str (limW k)) [V.str (limW .short), V.str (limW .cleared), V.str (limW .standing)] = !kEq k .free := by cases k <;> decide +kernel
theorem inKind (h : Bool) : inV (V.str (setWord h)) [V.str (setWord true), V.str (setWord false)] = true := by cases h <;> decide +kernel
theorem mkLim2 {K : PySem.W.Frag} {H : Hp} {k : LimK} {n : Int} {R : Addr → Hp → Prop} (hk : limOk k n) (kk : ∀ l' H1, Same H H1 → LimAt K H1 l' k n → R l' H1) : ∀ x dx, H x = none → H dx = none → dx ≠ x → spLimInit K k (.ref x :: (limArgs k n ++ [])) (upd (upd H dx (.own x)) x (.ins (cLim K k) dx [])) (fun v H2 => v = .non ∧ R x H2) E0 :=
  fun x dx hx hdx ne => ⟨x, dx, n, by rw [List.append_nil], hk, upd_same, rfl, kk x _ (fun c o hc => by rw [upd_ne (ne_of_none hc hx)]; exact same_two hx hdx c o hc) ⟨dx, upd_same⟩⟩
set_option hygiene false in
local macro_rules | `(tactic| walk_at "st") => `(tactic| first
  | ((with_reducible refine' w_aug ?h ?_); (case h => exact rfl))
  | (with_reducible first | refine w_bm ?_ | refine w_fldAug ?_ | refine w_seqU ?_ | refine w_enumL ?_)
  | ((with_reducible refine' w_tyL ?h ?_); (case h => walk_at "hp"))
  | ((with_reducible refine' w_enumLAt ?h ?_); (case h => walk_at "hp")))

set_option hygiene false in
local macro_rules | `(tactic| walk_at "st") => `(tactic| first | (refine w_cval (T.cw_lim _) ⟨rfl, ?_⟩ fun h => h _ _) | (refine w_cval (T.cw_set _) ⟨rfl, ?_⟩ fun h => h _ _) | (refine w_cval T.most_s ⟨rfl, ?_⟩ fun h => h _ _) | (refine w_cval T.most_c ⟨rfl, ?_⟩ fun h => h _ _))
section
variable {P : Program} {w : World} {K : PySem.W.Frag} {mg : Str → Option Value} {base : Heap}
theorem d_limit_at (T : Txt K mg) (F : FD K mg "limit_at" s_limit_at) (c_number_of : Dn P w K mg base 1 "number_of" s_number_of ["word", "least", "most"] (spNumOf)) (c_Free___init__ : Fr P w K mg base 1 (He.ma K (cLim K .free) "__init__") ["self"] [] (spLimInit K .free)) (c_Short___init__ : Fr P w K mg base 3 (He.ma K (cLim K .short) "__init__") ["self", "longest"] [] (spLimInit K .short)) (c_Cleared___init__ : Fr P w K mg base 3 (He.ma K (cLim K .cleared) "__init__") ["self", "many"] [] (spLimInit K .cleared)) (c_Standing___init__ : Fr P w K mg base 3 (He.ma K (cLim K .standing) "__init__") ["self", "many"] [] (spLimInit K .standing)) : Dn P w K mg base 5 "limit_at" s_limit_at ["words", "at"] (spLimitAt K) := by
  refine dn_of F (fun _ _ _ _ _ _ us hl => match us, hl with | [_, _], _ => rfl) sc_limit_at (fun vs H Q E h => ?_) (fun fa cdv A outer s H vs Q E hr h => ?_)
  · obtain ⟨p, S, rfl, _⟩ := h
    rfl
  · obtain ⟨p, S, rfl, hp, ok, k⟩ := h
    obtain ⟨n0, n1⟩ := lim_small ok
    obtain ⟨_, _, hw2⟩ := ws_at S
    have ll := limL_len S.lk
    refine ⟨_, PSs.nox (pss_cons (ps_set (i := 2) sc_limit_at.nd rfl (Or.inl rfl) (pe_join pe_str (pe_slice sl_list (pv 0) (po_some (pv 1)) (po_some (pe_op op_add (pv 1) pe_int)))))
 (pss_cons (ps_if (pt_cmpR op_eq (pv 2) (ClX.pe_cval (pe_gc (x := "Free") rfl (T.gc_lim .free))) (nomark _))
 (pss_one (ps_ret (pe_tup (pa_cons (pe_mk0 c_Free___init__ (T.mk_lim .free) (T.gc_lim .free) hr (by decide) rfl) (pa_cons (pe_op op_add (pv 1) pe_int) pa_nil)))))
 pss_nil)
 (pss_cons (ps_if (pt_cmpR op_notIn_seq (pv 2) (pe_tup (pa_cons (ClX.pe_cval (pe_gc (x := "Short") rfl (T.gc_lim .short))) (pa_cons (ClX.pe_cval (pe_gc (x := "Cleared") rfl (T.gc_lim .cleared))) (pa_cons (ClX.pe_cval (pe_gc (x := "Standing") rfl (T.gc_lim .standing))) pa_nil)))) (by rfl))
 (pss_one ps_never)
 pss_nil)
 (pss_cons (ps_set (i := 3) sc_limit_at.nd rfl (Or.inl rfl) (pe_ifExp (pt_cmpR op_eq (pv 2) (ClX.pe_cval (pe_gc (x := "Short") rfl (T.gc_lim .short))) (nomark _)) (ClX.pe_cval (pe_gc (x := "Short") rfl (T.gc_lim .short))) (ClX.pe_cval (pe_gc (x := "Counted") rfl (T.gc_Counted)))))
 (pss_cons (ps_set (i := 4) sc_limit_at.nd rfl (Or.inl rfl) (pe_d c_number_of hr (by decide) rfl (pa_cons (pe_join pe_str (pe_slice sl_list (pv 0) (po_some (pe_op op_add (pv 1) pe_int)) (po_some (pe_op op_add (pv 1) pe_int)))) (pa_cons (pe_ifExp (pt_cmpR op_eq (pv 2) (ClX.pe_cval (pe_gc (x := "Standing") rfl (T.gc_lim .standing))) (nomark _)) pe_int pe_int) (pa_cons (pv 3) pa_nil)))))
 (pss_cons (ps_if (pt_cmpR op_isN' (pv 4) pe_non (nomark _))
 (pss_one ps_never)
 pss_nil)
 (pss_cons (ps_if (pt_cmpR op_eq (pv 2) (ClX.pe_cval (pe_gc (x := "Short") rfl (T.gc_lim .short))) (nomark _))
 (pss_one (ps_ret (pe_tup (pa_cons (pe_mk c_Short___init__ (T.mk_lim .short) (T.gc_lim .short) hr (by decide) rfl (pa_cons (pv 4) pa_nil)) (pa_cons (pe_op op_add (pv 1) pe_int) pa_nil)))))
 pss_nil)
 (pss_one (ps_ret (pe_tup (pa_cons (pe_ifExp (pt_cmpR op_eq (pv 2) (ClX.pe_cval (pe_gc (x := "Cleared") rfl (T.gc_lim .cleared))) (nomark _)) (pe_mk c_Cleared___init__ (T.mk_lim .cleared) (T.gc_lim .cleared) hr (by decide) rfl (pa_cons (pv 4) pa_nil)) (pe_mk c_Standing___init__ (T.mk_lim .standing) (T.gc_lim .standing) hr (by decide) rfl (pa_cons (pv 4) pa_nil))) (pa_cons (pe_op op_add (pv 1) pe_int) pa_nil)))))))))))), ?_⟩
    refine w_start (σ := [some (.ref p), some (.int 2), none, none, none]) rfl ?_
    repeat walk_at "st"
    refine ⟨⟨_, rfl⟩, ?_⟩
    repeat walk_at "st"
    refine w_slL (SqL.of hp) fun p1 h1 => ?_
    rw [show cutV ((wsOf S).map strW) (some 2) (some (2 + 1)) = [strW (limL S.lk)] from cut_one (i := 2) hw2]
    refine ⟨SX.S [], p1, [SX.S (limL S.lk)], rfl, rfl, .inl (SqL.of upd_same), by show (SX.S (limL S.lk)).length + 0 + 1 * 0 ≤ 16777216; rw [sx_len]; omega, ?_⟩
    rw [join1, ← lim_S]
    have s1 := same_new (o := .lst [strW (limL S.lk)]) h1 (Same.refl H)
    generalize upd H p1 (.lst [strW (limL S.lk)]) = H1 at s1 ⊢
    clear h1
    have hp1 := s1 _ _ hp
    repeat walk_at "st"
    with_reducible refine w_seq ?_
    repeat walk_at "st"
    rw [limEq]
    obtain ⟨lk, elk⟩ : ∃ x, x = S.lk := ⟨_, rfl⟩
    obtain ⟨n, en⟩ : ∃ x, x = S.ln := ⟨_, rfl⟩
    rw [← elk, ← en] at ok k
    rw [← en] at n0 n1
    rw [← elk] at ll ⊢
    cases lk with
    | free =>
      have e0 : n = 0 := ok
      subst e0
      repeat walk_at "st"
      refine mkLim2 (k := .free) (n := 0) rfl fun l' H2 e2 hl' => ?_
      repeat walk_at "st"
      refine ⟨by walk_at "len", fun t ht => ?_⟩
      refine k t l' _ (same_new (same_free (s1.trans e2) ht) (s1.trans e2)) (hl'.same (same_new ht (Same.refl _))) ?_
      rw [upd_same, ws_free S elk.symm]
      rfl
    | short =>
      repeat walk_at "st"
      with_reducible refine w_seq ?_
      repeat walk_at "st"
      refine ⟨by walk_at "len", fun tp htp => ?_⟩
      refine ⟨tp, _, rfl, .inr (SqT.of upd_same), rfl, rfl, ?_⟩
      rw [inLim]
      have s2 := same_new (o := .tup [.str (limW .short), .str (limW .cleared), .str (limW .standing)]) (same_free s1 htp) s1
      generalize upd H1 tp (.tup [.str (limW .short), .str (limW .cleared), .str (limW .standing)]) = H2 at s2 ⊢
      have hp2 := s2 _ _ hp
      obtain ⟨hw3, hwl⟩ := ws_num S (by rw [← elk]; intro z; cases z)
      rw [← en] at hw3
      have nl := intL_small n0 (by omega)
      repeat walk_at "st"
      try rw [limEq]
      repeat walk_at "st"
      refine ⟨⟨_, rfl⟩, ?_⟩
      repeat walk_at "st"
      refine w_slL (SqL.of hp2) fun p3 h3 => ?_
      rw [show cutV ((wsOf S).map strW) (some (2 + 1)) (some (2 + 2)) = [strW (intL n)] from cut_one (i := 3) hw3]
      refine ⟨SX.S [], p3, [SX.S (intL n)], rfl, rfl, .inl (SqL.of upd_same), by show (SX.S (intL n)).length + 0 + 1 * 0 ≤ 16777216; rw [sx_len]; omega, ?_⟩
      rw [join1]
      have s3 := same_new (o := .lst [strW (intL n)]) (same_free s2 h3) s2
      generalize upd H2 p3 (.lst [strW (intL n)]) = H3 at s3 ⊢
      repeat walk_at "st"
      try rw [limEq]
      repeat walk_at "st"
      refine ⟨intL n, 1, 64, rfl, by omega, fun H4 e4 => ?_⟩
      rw [numV_int n0 (by omega) ⟨ok.1, ok.2⟩]
      repeat walk_at "st"
      with_reducible refine w_seq ?_
      repeat walk_at "st"
      with_reducible refine w_seq ?_
      repeat walk_at "st"
      try rw [limEq]
      repeat walk_at "st"
      try rw [limEq]
      repeat walk_at "st"
      refine mkLim2 (k := .short) (n := n) ok fun l' H5 e5 hl' => ?_
      repeat walk_at "st"
      refine ⟨by walk_at "len", fun t ht => ?_⟩
      have s5 := (s3.trans e4).trans e5
      refine k t l' _ (same_new (same_free s5 ht) s5) (hl'.same (same_new ht (Same.refl _))) ?_
      rw [upd_same, hwl]
      rfl
    | cleared =>
      repeat walk_at "st"
      with_reducible refine w_seq ?_
      repeat walk_at "st"
      refine ⟨by walk_at "len", fun tp htp => ?_⟩
      refine ⟨tp, _, rfl, .inr (SqT.of upd_same), rfl, rfl, ?_⟩
      rw [inLim]
      have s2 := same_new (o := .tup [.str (limW .short), .str (limW .cleared), .str (limW .standing)]) (same_free s1 htp) s1
      generalize upd H1 tp (.tup [.str (limW .short), .str (limW .cleared), .str (limW .standing)]) = H2 at s2 ⊢
      have hp2 := s2 _ _ hp
      obtain ⟨hw3, hwl⟩ := ws_num S (by rw [← elk]; intro z; cases z)
      rw [← en] at hw3
      have nl := intL_small n0 (by omega)
      repeat walk_at "st"
      try rw [limEq]
      repeat walk_at "st"
      refine ⟨⟨_, rfl⟩, ?_⟩
      repeat walk_at "st"
      refine w_slL (SqL.of hp2) fun p3 h3 => ?_
      rw [show cutV ((wsOf S).map strW) (some (2 + 1)) (some (2 + 2)) = [strW (intL n)] from cut_one (i := 3) hw3]
      refine ⟨SX.S [], p3, [SX.S (intL n)], rfl, rfl, .inl (SqL.of upd_same), by show (SX.S (intL n)).length + 0 + 1 * 0 ≤ 16777216; rw [sx_len]; omega, ?_⟩
      rw [join1]
      have s3 := same_new (o := .lst [strW (intL n)]) (same_free s2 h3) s2
      generalize upd H2 p3 (.lst [strW (intL n)]) = H3 at s3 ⊢
      repeat walk_at "st"
      try rw [limEq]
      repeat walk_at "st"
      refine ⟨intL n, 1, 4096, rfl, by omega, fun H4 e4 => ?_⟩
      rw [numV_int n0 (by omega) ⟨ok.1, ok.2⟩]
      repeat walk_at "st"
      with_reducible refine w_seq ?_
      repeat walk_at "st"
      with_reducible refine w_seq ?_
      repeat walk_at "st"
      try rw [limEq]
      repeat walk_at "st"
      try rw [limEq]
      repeat walk_at "st"
      refine mkLim2 (k := .cleared) (n := n) ok fun l' H5 e5 hl' => ?_
      repeat walk_at "st"
      refine ⟨by walk_at "len", fun t ht => ?_⟩
      have s5 := (s3.trans e4).trans e5
      refine k t l' _ (same_new (same_free s5 ht) s5) (hl'.same (same_new ht (Same.refl _))) ?_
      rw [upd_same, hwl]
      rfl
    | standing =>
      repeat walk_at "st"
      with_reducible refine w_seq ?_
      repeat walk_at "st"
      refine ⟨by walk_at "len", fun tp htp => ?_⟩
      refine ⟨tp, _, rfl, .inr (SqT.of upd_same), rfl, rfl, ?_⟩
      rw [inLim]
      have s2 := same_new (o := .tup [.str (limW .short), .str (limW .cleared), .str (limW .standing)]) (same_free s1 htp) s1
      generalize upd H1 tp (.tup [.str (limW .short), .str (limW .cleared), .str (limW .standing)]) = H2 at s2 ⊢
      have hp2 := s2 _ _ hp
      obtain ⟨hw3, hwl⟩ := ws_num S (by rw [← elk]; intro z; cases z)
      rw [← en] at hw3
      have nl := intL_small n0 (by omega)
      repeat walk_at "st"
      try rw [limEq]
      repeat walk_at "st"
      refine ⟨⟨_, rfl⟩, ?_⟩
      repeat walk_at "st"
      refine w_slL (SqL.of hp2) fun p3 h3 => ?_
      rw [show cutV ((wsOf S).map strW) (some (2 + 1)) (some (2 + 2)) = [strW (intL n)] from cut_one (i := 3) hw3]
      refine ⟨SX.S [], p3, [SX.S (intL n)], rfl, rfl, .inl (SqL.of upd_same), by show (SX.S (intL n)).length + 0 + 1 * 0 ≤ 16777216; rw [sx_len]; omega, ?_⟩
      rw [join1]
      have s3 := same_new (o := .lst [strW (intL n)]) (same_free s2 h3) s2
      generalize upd H2 p3 (.lst [strW (intL n)]) = H3 at s3 ⊢
      repeat walk_at "st"
      try rw [limEq]
      repeat walk_at "st"
      refine ⟨intL n, 0, 4096, rfl, by omega, fun H4 e4 => ?_⟩
      rw [numV_int n0 (by omega) ⟨ok.1, ok.2⟩]
      repeat walk_at "st"
      with_reducible refine w_seq ?_
      repeat walk_at "st"
      with_reducible refine w_seq ?_
      repeat walk_at "st"
      try rw [limEq]
      repeat walk_at "st"
      try rw [limEq]
      repeat walk_at "st"
      refine mkLim2 (k := .standing) (n := n) ok fun l' H5 e5 hl' => ?_
      repeat walk_at "st"
      refine ⟨by walk_at "len", fun t ht => ?_⟩
      have s5 := (s3.trans e4).trans e5
      refine k t l' _ (same_new (same_free s5 ht) s5) (hl'.same (same_new ht (Same.refl _))) ?_
      rw [upd_same, hwl]
      rfl
theorem d_setting_at (T : Txt K mg) (F : FD K mg "setting_at" s_setting_at) (c_number_of : Dn P w K mg base 1 "number_of" s_number_of ["word", "least", "most"] (spNumOf)) (c_limit_at : Dn P w K mg base 5 "limit_at" s_limit_at ["words", "at"] (spLimitAt K)) (c_set_init2 : ∀ h : Bool, Fr P w K mg base 5 (He.ma K (cSet K h) "__init__") ["self", "letters", "limit"] [] (spSetInit K h)) : Dn P w K mg base 7 "setting_at" s_setting_at ["words", "at"] (spSettingAt K) := by
  refine dn_of F (fun _ _ _ _ _ _ us hl => match us, hl with | [_, _], _ => rfl) sc_setting_at (fun vs H Q E h => ?_) (fun fa cdv A outer s H vs Q E hr h => ?_)
  · obtain ⟨p, S, rfl, _⟩ := h
    rfl
  · obtain ⟨p, S, rfl, hp, ok, q1, q2, k⟩ := h
    obtain ⟨hw0, hw1, _⟩ := ws_at S
    have kl := kind_len S.hid
    have ql := intL_small (n := (S.q : Int)) (by omega) (by omega)
    refine ⟨_, PSs.nox (pss_cons (ps_set (i := 2) sc_setting_at.nd rfl (Or.inl rfl) (pe_join pe_str (pe_slice sl_list (pv 0) (po_some (pv 1)) (po_some (pe_op op_add (pv 1) pe_int)))))
 (pss_cons (ps_if (pt_cmpR op_notIn_seq (pv 2) (pe_tup (pa_cons (ClX.pe_cval (pe_gc (x := "Hidden") rfl (T.gc_Hidden))) (pa_cons (ClX.pe_cval (pe_gc (x := "Told") rfl (T.gc_Told))) pa_nil))) (by rfl))
 (pss_one ps_never)
 pss_nil)
 (pss_cons (ps_set (i := 3) sc_setting_at.nd rfl (Or.inl rfl) (pe_d c_number_of hr (by decide) rfl (pa_cons (pe_join pe_str (pe_slice sl_list (pv 0) (po_some (pe_op op_add (pv 1) pe_int)) (po_some (pe_op op_add (pv 1) pe_int)))) (pa_cons (pe_gv rfl T.g_LEAST_LETTERS) (pa_cons (pe_gv rfl T.g_MOST_LETTERS) pa_nil)))))
 (pss_cons (ps_if (pt_cmpR op_isN' (pv 3) pe_non (nomark _))
 (pss_one ps_never)
 pss_nil)
 (pss_cons (ps_asg (pe_d c_limit_at hr (by decide) rfl (pa_cons (pv 0) (pa_cons (pe_op op_add (pv 1) pe_int) pa_nil))) (pg_tup rfl (pgs_cons (pg_name (i := 4) sc_setting_at.nd rfl (Or.inl rfl)) (pgs_cons (pg_name (i := 5) sc_setting_at.nd rfl (Or.inl rfl)) pgs_nil))))
 (pss_one (ps_ret (pe_tup (pa_cons (pe_ifExp (pt_cmpR op_eq (pv 2) (ClX.pe_cval (pe_gc (x := "Hidden") rfl (T.gc_Hidden))) (nomark _)) (pe_mk (c_set_init2 true) (T.mk_set true) T.gc_Hidden hr (by decide) rfl (pa_cons (pv 3) (pa_cons (pv 4) pa_nil))) (pe_mk (c_set_init2 false) (T.mk_set false) T.gc_Told hr (by decide) rfl (pa_cons (pv 3) (pa_cons (pv 4) pa_nil)))) (pa_cons (pv 5) pa_nil)))))))))), ?_⟩
    refine w_start (σ := [some (.ref p), some (.int 0), none, none, none, none]) rfl ?_
    repeat walk_at "st"
    refine ⟨⟨_, rfl⟩, ?_⟩
    repeat walk_at "st"
    refine w_slL (SqL.of hp) fun p1 h1 => ?_
    rw [show cutV ((wsOf S).map strW) (some 0) (some (0 + 1)) = [strW (kindL S.hid)] from cut_one (i := 0) hw0]
    refine ⟨SX.S [], p1, [SX.S (kindL S.hid)], rfl, rfl, .inl (SqL.of upd_same), by show (SX.S (kindL S.hid)).length + 0 + 1 * 0 ≤ 16777216; rw [sx_len]; omega, ?_⟩
    rw [join1, ← kind_S]
    have s1 := same_new (o := .lst [strW (kindL S.hid)]) h1 (Same.refl H)
    generalize upd H p1 (.lst [strW (kindL S.hid)]) = H1 at s1 ⊢
    repeat walk_at "st"
    with_reducible refine w_seq ?_
    repeat walk_at "st"
    refine ⟨by walk_at "len", fun tp htp => ?_⟩
    refine ⟨tp, _, rfl, .inr (SqT.of upd_same), rfl, rfl, ?_⟩
    rw [inKind]
    have s2 := same_new (o := .tup [.str (setWord true), .str (setWord false)]) (same_free s1 htp) s1
    generalize upd H1 tp (.tup [.str (setWord true), .str (setWord false)]) = H2 at s2 ⊢
    have hp2 := s2 _ _ hp
    repeat walk_at "st"
    refine ⟨⟨_, rfl⟩, ?_⟩
    repeat walk_at "st"
    refine w_slL (SqL.of hp2) fun p3 h3 => ?_
    rw [show cutV ((wsOf S).map strW) (some (0 + 1)) (some (0 + 2)) = [strW (intL S.q)] from cut_one (i := 1) hw1]
    refine ⟨SX.S [], p3, [SX.S (intL S.q)], rfl, rfl, .inl (SqL.of upd_same), by show (SX.S (intL S.q)).length + 0 + 1 * 0 ≤ 16777216; rw [sx_len]; omega, ?_⟩
    rw [join1]
    have s3 := same_new (o := .lst [strW (intL S.q)]) (same_free s2 h3) s2
    generalize upd H2 p3 (.lst [strW (intL S.q)]) = H3 at s3 ⊢
    repeat walk_at "st"
    refine ⟨intL S.q, 2, 26, rfl, by omega, fun H4 e4 => ?_⟩
    rw [numV_int (by omega) (by omega) ⟨by omega, by omega⟩]
    repeat walk_at "st"
    with_reducible refine w_seq ?_
    repeat walk_at "st"
    have s4 := s3.trans e4
    refine ⟨p, S, rfl, s4 _ _ hp, ok, fun t l H5 e5 hl ht => ?_⟩
    repeat walk_at "st"
    rw [kindEq]
    cases hh : S.hid with
    | true =>
      repeat walk_at "st"
      refine fun x dx hx hdx ne => ⟨x, dx, (S.q : Int), .ref l, S.lk, S.ln, rfl, by omega, by omega, upd_same, Or.inr ⟨l, rfl, hl.same (same_two hx hdx)⟩, fun H6 l2 e6 hx6 hl6 => ⟨rfl, ?_⟩⟩
      have s6 : Same H5 H6 := fun b o hb => e6 b o (ne_of_none hb hx) (same_two hx hdx b o hb)
      have s7 := (s4.trans e5).trans s6
      repeat walk_at "st"
      refine ⟨by walk_at "len", fun t2 ht2 => ?_⟩
      refine k t2 x _ (same_new (same_free s7 ht2) s7) (SetAt.same (same_new ht2 (Same.refl _)) ⟨dx, l2, by rw [hh]; exact hx6, hl6, q1, q2⟩) ?_
      rw [upd_same]
    | false =>
      repeat walk_at "st"
      refine fun x dx hx hdx ne => ⟨x, dx, (S.q : Int), .ref l, S.lk, S.ln, rfl, by omega, by omega, upd_same, Or.inr ⟨l, rfl, hl.same (same_two hx hdx)⟩, fun H6 l2 e6 hx6 hl6 => ⟨rfl, ?_⟩⟩
      have s6 : Same H5 H6 := fun b o hb => e6 b o (ne_of_none hb hx) (same_two hx hdx b o hb)
      have s7 := (s4.trans e5).trans s6
      repeat walk_at "st"
      refine ⟨by walk_at "len", fun t2 ht2 => ?_⟩
      refine k t2 x _ (same_new (same_free s7 ht2) s7) (SetAt.same (same_new ht2 (Same.refl _)) ⟨dx, l2, by rw [hh]; exact hx6, hl6, q1, q2⟩) ?_
      rw [upd_same]
theorem d_Setting_read (T : Txt K mg) {f : Addr} (F : FA K "read" "Setting.read" s_Setting_read [] f) (c_setting_at : Dn P w K mg base 7 "setting_at" s_setting_at ["words", "at"] (spSettingAt K)) : Fr P w K mg base 8 (f) ["cls", "text"] [] (spSetRead K) := by
  refine fr_of0 F (fun _ _ _ _ _ _ us hl => match us, hl with | [_, _], _ => rfl) sc_Setting_read (fun vs H Q E h => ?_) (fun fa cdv A outer s H vs Q E hr h => ?_)
  · obtain ⟨C, S, rfl, _⟩ := h
    rfl
  · obtain ⟨C, S, rfl, ok, q1, q2, k⟩ := h
    obtain ⟨n0, n1⟩ := lim_small ok
    have tl : (textL S).length ≤ 1000 := by
      have kl := kind_len S.hid
      have ql := intL_small (n := (S.q : Int)) (by omega) (by omega)
      have ll := limL_len S.lk
      have nl := intL_small n0 (by omega)
      unfold textL wsOf
      cases hk : S.lk <;> rw [hk] at ll <;> simp [limWs, TL.joinL] <;> omega
    have sz := sizeLine_eq
    refine ⟨_, PSs.nox (pss_cons (ps_set (i := 2) sc_Setting_read.nd rfl (Or.inl rfl) (pe_ifExp (pt_val (pe_callB call_isi (by rfl) T.n_isinstance (by decide +kernel) (pa_cons (pv 1) (pa_cons (pe_bltn (v := .ty "str") (by rfl) T.n_str (by decide +kernel) rfl) pa_nil))) (by intro _; rfl)) (pe_split (pv 1) pe_str) (pe_lst (pa_cons pe_str pa_nil))))
 (pss_cons (ps_asg (pe_d c_setting_at hr (by decide) rfl (pa_cons (pv 2) (pa_cons pe_int pa_nil))) (pg_tup rfl (pgs_cons (pg_name (i := 3) sc_Setting_read.nd rfl (Or.inl rfl)) (pgs_cons (pg_name (i := 4) sc_Setting_read.nd rfl (Or.inl rfl)) pgs_nil))))
 (pss_cons (ps_if (pt_cmpR op_lt (pv 4) (pe_callB cl_lenQ (by rfl) T.n_len (by decide +kernel) (pa_cons (pv 2) pa_nil)) (nomark _))
 (pss_one ps_never)
 pss_nil)
 (pss_one (ps_ret (pv 3)))))), ?_⟩
    refine w_start (σ := [some C, some (.str (SX.S (textL S))), none, none, none]) rfl ?_
    repeat walk_at "st"
    refine w_isiStr (.str _) ?_
    repeat walk_at "st"
    refine ⟨_, rfl, ⟨_, rfl⟩, ?_⟩
    repeat walk_at "st"
    refine ⟨SX.S (textL S), " ", rfl, rfl, by decide, by rw [sx_len]; omega, fun p hp => ?_⟩
    rw [split_text, show ((wsOf S).map SX.S).map V.str = (wsOf S).map strW by rw [List.map_map]; rfl]
    have s1 := same_new (o := .lst ((wsOf S).map strW)) hp (Same.refl H)
    have hp1 : upd H p (.lst ((wsOf S).map strW)) p = some (.lst ((wsOf S).map strW)) := upd_same
    generalize upd H p (.lst ((wsOf S).map strW)) = H1 at s1 hp1 ⊢
    repeat walk_at "st"
    refine ⟨p, S, rfl, hp1, ok, q1, q2, fun t a H2 e2 hS ht => ?_⟩
    have hp2 := e2 _ _ hp1
    repeat walk_at "st"
    with_reducible refine w_seq ?_
    repeat walk_at "st"
    refine w_iteF (decide_eq_false (by rw [List.length_map]; omega)) ?_
    repeat walk_at "st"
    exact k a _ (s1.trans e2) hS
end

end Pt_read
section Pt_law56a
/-! ### the law's own settings, lengths and places -/
def toldV : LimK → Int → V
  | .free, _ => .non
  | _, n => .int n
def PlT (H : Hp) (t : Addr) (S : Sg) : Prop := H t = some (.tup [.str (SX.S (kindL S.hid)), .int S.q, .str (SX.S (limL S.lk)), toldV S.lk S.ln]) ∧ limOk S.lk S.ln ∧ 2 ≤ S.q ∧ S.q ≤ 26
def NoSt (S : Sg) : Prop := S.lk ≠ .standing
def spLFar : Sp := fun vs H Q _ => ∃ p c n, ∃ m : Nat, vs = [.ref p, .int m] ∧ PenB H p c n ∧ m ≤ 30 ∧ n + m ≤ 90000 ∧ ∀ z H', 0 ≤ z → z < 10 ^ m → Keep p H H' → PenB H' p c (n + m) → Q (.int z) H'
def spLPlain (K : PySem.W.Frag) : Sp := fun vs H Q _ => ∃ p c n, vs = [.ref p] ∧ PenB H p c n ∧ n ≤ 80000 ∧ ∀ t S H', Keep p H H' → t ≠ p → PlT H' t S → NoSt S → PenB H' p c (n + 10) → Q (.ref t) H'
def spLSetting (K : PySem.W.Frag) : Sp := fun vs H Q _ => ∃ t S, vs = [.ref t] ∧ PlT H t S ∧ ∀ a H', Same H H' → SetAt K H' a S → Q (.ref a) H'
def spLFreeL : Sp := fun vs H Q _ => ∃ t S m dp, vs = [.ref t, .int m, deepV dp] ∧ PlT H t S ∧ m ≤ 1000000000000000000000000000000 ∧ (fill (capO S dp) 1 m).length ≤ 5000 ∧ ∀ H', Same H H' → Q (.int (sumF (capO S dp) 1 m)) H'
def spLLetters (K : PySem.W.Frag) : Sp := fun vs H Q _ => ∃ t S m, vs = [.ref t, .int m] ∧ PlT H t S ∧ NoSt S ∧ BigI m ∧ ∀ H', Same H H' → Q (.int (lenO S m)) H'
def spLGreat (K : PySem.W.Frag) : Sp := fun vs H Q _ => ∃ t S m, vs = [.ref t, .int m] ∧ PlT H t S ∧ NoSt S ∧ BigI m ∧ ∀ H', Same H H' → Q (.int (greatO S.lk S.ln m)) H'
theorem plT_same {H H' : Hp} {t : Addr} {S : Sg} (e : Same H H') (h : PlT H t S) : PlT H' t S := ⟨e _ _ h.1, h.2⟩
theorem plT_ok {H : Hp} {t : Addr} {S : Sg} (h : PlT H t S) : SgOk S := ⟨h.2.1, h.2.2.1, h.2.2.2⟩
theorem space_S : (" " : Str) = SX.S [32] := rfl
theorem kindH (h : Bool) : decide (V.str (SX.S (kindL h)) = V.str "hidden") = h := by cases h <;> decide +kernel
theorem limF (k : LimK) : decide (V.str (SX.S (limL k)) = V.str "free") = kEq k .free := by cases k <;> decide +kernel
theorem limC (k : LimK) : decide (V.str (SX.S (limL k)) = V.str "cleared") = kEq k .cleared ∧ decide (V.str (SX.S (limL k)) = V.str "short") = kEq k .short := by
  cases k <;> exact ⟨by decide +kernel, by decide +kernel⟩
theorem text_eq (S : Sg) : textL S = (((kindL S.hid ++ [32]) ++ intL S.q) ++ [32]) ++ limL S.lk ++ (match S.lk with | .free => [] | _ => [32] ++ intL S.ln) := by
  unfold textL wsOf
  cases hk : S.lk <;> simp [limWs, TL.joinL]
theorem w_cmeth {σ : L2.St} {H : Hp} {Q : VK} {C : Addr} {sp : Sp} {E : XK} {ta : TE} {t : TA} (q : ta σ H fun x H1 => x = .ref C ∧ t σ H1 fun vs H2 => sp (.ref C :: vs) H2 Q E) : ClX.tCMeth C sp E ta t σ H Q := q
abbrev kF : Key := Sum.inr (Str.ofString "free")
abbrev kC : Key := Sum.inr (Str.ofString "cleared")
abbrev kH : Key := Sum.inr (Str.ofString "short")
def kvs3 (a b d : V) : List (Key × V) := [(kF, a), (kC, b), (kH, d)]
theorem kn1 : ¬ kF = kC := by decide +kernel
theorem kn3 : ¬ kF = kH := by decide +kernel
theorem kn5 : ¬ kC = kH := by decide +kernel
theorem merge3 (a b d : V) : mergeK [] (kvs3 a b d) = kvs3 a b d := by
  show putK (putK (putK [] kF a) kC b) kH d = _
  have e1 : putK [] kF a = [(kF, a)] := putK_new a rfl
  have e2 : putK [(kF, a)] kC b = [(kF, a), (kC, b)] := putK_new b (by rw [valV_neg kn1]; rfl)
  rw [e1, e2]
  exact putK_new d (by rw [valV_neg kn3, valV_neg kn5]; rfl)
theorem get3 (a b d : V) {k : LimK} (h : k ≠ .standing) : valV (kvs3 a b d) (Sum.inr (SX.S (limL k))) = some (match k with | .free => a | .cleared => b | .standing => .non | .short => d) := by
  have ef : (Sum.inr (SX.S (limL .free)) : Key) = kF := by decide +kernel
  have ec : (Sum.inr (SX.S (limL .cleared)) : Key) = kC := by decide +kernel
  have eh : (Sum.inr (SX.S (limL .short)) : Key) = kH := by decide +kernel
  unfold kvs3
  cases k with
  | free => rw [ef]; exact valV_pos rfl
  | cleared => rw [ec, valV_neg kn1]; exact valV_pos rfl
  | standing => exact (h rfl).elim
  | short => rw [eh, valV_neg kn3, valV_neg kn5]; exact valV_pos rfl
theorem w_disp {σ : L2.St} {H : Hp} {Q : VK} {trs : List (TE × TE)} (q : ∀ p, H p = none → tPairs trs σ (upd H p (.dK [])) fun ps H2 => H2 p = some (.dK []) ∧ ∃ kvs : List (Key × V), ps = kvs.map (fun kv => (kV kv.1, kv.2)) ∧ kvs.length ≤ 15 ∧ Q (.ref p) (upd H2 p (.dK (mergeK [] kvs)))) : tDisp trs σ H Q := q
theorem w_pc {σ : L2.St} {H : Hp} {tk tv : TE} {r : List (TE × TE)} {R : List (V × V) → Hp → Prop} (q : tk σ H fun x H1 => tv σ H1 fun y H2 => tPairs r σ H2 fun ps H3 => R ((x, y) :: ps) H3) : tPairs ((tk, tv) :: r) σ H R := q
theorem w_pn {σ : L2.St} {H : Hp} {R : List (V × V) → Hp → Prop} (q : R [] H) : tPairs [] σ H R := q
theorem noSt_loose {S : Sg} (h : NoSt S) : looseB S = false := by
  unfold looseB
  cases hk : S.lk with
  | standing => exact (h hk).elim
  | free => exact Bool.and_false _
  | short => exact Bool.and_false _
  | cleared => exact Bool.and_false _
theorem noSt_sp {S : Sg} (h : NoSt S) (r : Int) : spO S r = none := by
  unfold spO
  cases hk : S.lk with
  | standing => exact (h hk).elim
  | free => rw [show kEq LimK.free .standing = false from rfl, Bool.false_and, Bool.and_false]; rfl
  | short => rw [show kEq LimK.short .standing = false from rfl, Bool.false_and, Bool.and_false]; rfl
  | cleared => rw [show kEq LimK.cleared .standing = false from rfl, Bool.false_and, Bool.and_false]; rfl
theorem len_dp {S : Sg} (ok : SgOk S) (h : NoSt S) {m : Int} (h0 : 0 ≤ m) : lenO S m = match S.lk with
    | .cleared => m / S.ln * sumF (capO S none) 1 S.ln + sumF (capO S none) 1 (m % S.ln)
    | .short => sumF (capO S (some S.ln)) 1 m
    | _ => sumF (capO S none) 1 m := by
  cases hk : S.lk with
  | standing => exact (h hk).elim
  | free => unfold lenO cntO; rw [hk]; rfl
  | short => unfold lenO cntO; rw [hk]; rfl
  | cleared => rw [len_cleared ok hk h0, Int.mul_comm]; rfl
theorem word_step {S : Sg} (ok : SgOk S) (h : NoSt S) (i : Nat) : ((wordO S none i).length : Int) = lenO S ((i : Int) + 1) - lenO S i := by
  have so : ∀ m, SpOk S none m := fun m => ⟨fun y => (h y).elim, fun y => (by rw [noSt_loose h] at y; cases y), fun s y => by cases y⟩
  have a := sum_begin ok (so (i + 1 : Nat))
  have b := sum_begin ok (so i)
  rw [List.range_succ, List.map_append, List.sum_append, b] at a
  have a : lenO S i + (((wordO S none i).length : Int) + 0) = lenO S ((i + 1 : Nat) : Int) := a
  have e : ((i + 1 : Nat) : Int) = (i : Int) + 1 := rfl
  rw [e] at a
  omega
theorem len_less {S : Sg} (ok : SgOk S) (h : NoSt S) {a b : Int} (h0 : 0 ≤ a) (hab : a ≤ b) : lenO S a + (b - a) ≤ lenO S b := by
  have lo := noSt_loose h
  have key : ∀ d : Nat, lenO S a + d ≤ lenO S (a + d) := by
    intro d
    induction d with
    | zero => simp
    | succ d ih =>
      have := len_step ok (m := a + d) (by omega) (fun y => by rw [lo] at y; cases y)
      rw [show a + ((d + 1 : Nat) : Int) = a + d + 1 by omega]
      omega
  have := key (b - a).toNat
  rw [show a + ((b - a).toNat : Int) = b by omega] at this
  omega
theorem len_one {S : Sg} (ok : SgOk S) (h : NoSt S) {k : Int} {i j : Nat} (h1 : lenO S i ≤ k) (h2 : k < lenO S ((i : Int) + 1)) (h3 : lenO S j ≤ k) (h4 : k < lenO S ((j : Int) + 1)) : i = j := by
  rcases Nat.lt_trichotomy i j with c | c | c
  · have := len_less ok h (a := (i : Int) + 1) (b := j) (by omega) (by omega)
    omega
  · exact c
  · have := len_less ok h (a := (j : Int) + 1) (b := i) (by omega) (by omega)
    omega
theorem sumF_le {c : Nat → Int} (hc : ∀ d, 1 ≤ c d) : ∀ (n d : Nat) (l : Int), l.toNat ≤ n → 0 ≤ l → sumF c d l ≤ l * (d + l)
  | n, d, l, hn, h => by
    by_cases h1 : l ≤ c d
    · rw [sumF_in hc h h1, Int.mul_comm (d : Int) l]
      exact Int.mul_le_mul_of_nonneg_left (by omega) h
    · have c1 := hc d
      cases n with
      | zero => omega
      | succ n =>
        have i := sumF_le hc n (d + 1) (l - c d) (by omega) (by omega)
        rw [sumF_out hc (by omega)]
        have e1 : (l - c d) * (((d + 1 : Nat) : Int) + (l - c d)) ≤ (l - c d) * (d + l) := Int.mul_le_mul_of_nonneg_left (by omega) (by omega)
        have e2 : (d : Int) * c d ≤ c d * (d + l) := by
          rw [Int.mul_comm (d : Int)]
          exact Int.mul_le_mul_of_nonneg_left (by omega) (by omega)
        have e3 : l * (d + l) = c d * (d + l) + (l - c d) * (d + l) := by rw [← Int.add_mul]; congr 1; omega
        omega
theorem sum_block {c : Nat → Int} (hc : ∀ d, 1 ≤ c d) {l : Int} (h : 0 ≤ l) (h1 : l ≤ 4096) : 0 ≤ sumF c 1 l ∧ sumF c 1 l ≤ 1000000000000 := by
  have a := sumF_le hc l.toNat 1 l (Nat.le_refl _) h
  have b := sumF_grow hc 1 0 (Int.le_refl _) l.toNat
  rw [sumF_nil (Int.le_refl 0), show (0 : Int) + (l.toNat : Int) = l by omega] at b
  have e : l * (((1 : Nat) : Int) + l) ≤ 4096 * 4097 := Int.mul_le_mul h1 (by omega) (by omega) (by decide)
  exact ⟨by omega, by omega⟩
/-- where the code with an index ends -/
def endO (S : Sg) (n r : Int) (i : Nat) : Int := if (i : Int) + 1 < r then lenO S ((i : Int) + 1) else n
theorem most_len {S : Sg} (ok : SgOk S) (h : NoSt S) {n r : Int} (hr : MostR S n r) (r1 : 1 ≤ r) : lenO S (r - 1) + 1 = leastO S r ∧ leastO S r ≤ n ∧ n ≤ lenO S r := by
  obtain ⟨r0, _, a, b⟩ := hr
  have lo := noSt_loose h
  have e1 : leastO S r = lenO S (r - 1) + 1 := if_neg (by omega)
  have c := b (r + 1) (by omega) (fun y => by rw [lo] at y; cases y)
  have e2 : leastO S (r + 1) = lenO S (r + 1 - 1) + 1 := if_neg (by omega)
  rw [show r + 1 - 1 = r by omega] at e2
  exact ⟨e1.symm, a, by omega⟩
theorem code_ends {S : Sg} (ok : SgOk S) (h : NoSt S) {n r : Int} (hr : MostR S n r) {i : Nat} (hi : (i : Int) < r) : lenO S i < endO S n r i ∧ endO S n r i ≤ n ∧ ((codeO S n r i).length : Int) = endO S n r i - lenO S i ∧ endO S n r i ≤ lenO S ((i : Int) + 1) := by
  obtain ⟨m1, m2, m3⟩ := most_len ok h hr (by omega)
  have ws := word_step ok h i
  have l1 := len_less ok h (a := (i : Int)) (b := (i : Int) + 1) (by omega) (by omega)
  have l2 := len_less ok h (a := (i : Int)) (b := r - 1) (by omega) (by omega)
  unfold endO codeO
  rw [noSt_sp h]
  show _ ∧ _ ∧ (((if (i : Int) + 1 < r then wordO S none i else (wordO S none i).take (n - lenO S i).toNat : List Nat).length : Nat) : Int) = _ ∧ _
  by_cases c : (i : Int) + 1 < r
  · rw [if_pos c, if_pos c]
    have l3 := len_less ok h (a := (i : Int) + 1) (b := r - 1) (by omega) (by omega)
    exact ⟨by omega, by omega, ws, Int.le_refl _⟩
  · rw [if_neg c, if_neg c]
    have e : (i : Int) = r - 1 := by omega
    rw [List.length_take]
    rw [e] at ws l1 ⊢
    rw [show r - 1 + 1 = r by omega] at ws l1 ⊢
    refine ⟨by omega, Int.le_refl _, by omega, m3⟩
/-- the code of a letter of the worst text -/
theorem place_one {S : Sg} (ok : SgOk S) (h : NoSt S) {n r k : Int} (hr : MostR S n r) {i j : Nat} (hi : (i : Int) < r) (h1 : lenO S i ≤ k) (h2 : k < endO S n r i) (hj : (j : Int) < r) (h3 : begO S none j ≤ k) (h4 : (j : Int) + 1 < r → k < begO S none (j + 1)) : j = i := by
  obtain ⟨a1, a2, a3, a4⟩ := code_ends ok h hr hi
  obtain ⟨b1, b2, b3, b4⟩ := code_ends ok h hr hj
  obtain ⟨m1, m2, m3⟩ := most_len ok h hr (by omega)
  have h3 : lenO S j ≤ k := h3
  have h4 : (j : Int) + 1 < r → k < lenO S ((j : Int) + 1) := h4
  refine len_one ok h h3 ?_ h1 (by omega)
  by_cases c : (j : Int) + 1 < r
  · exact h4 c
  · rw [show (j : Int) + 1 = r by omega]
    omega
theorem code_word {S : Sg} (h : NoSt S) {n r : Int} {i x : Nat} (hx : x < (codeO S n r i).length) : (codeO S n r i)[x]? = (wordO S none i)[x]? := by
  unfold codeO at hx ⊢
  rw [noSt_sp h] at hx ⊢
  split
  · rfl
  · rename_i c
    rw [if_neg c, List.length_take] at hx
    rw [List.getElem?_take, if_pos (by omega)]
theorem few_bound {k : LimK} {n z r : Int} (ok : limOk k n) (z0 : 0 ≤ z) (h : Least k n z r) : r ≤ z := by
  obtain ⟨r0, _, h3⟩ := h
  rcases Int.lt_or_le z r with c | c
  · have := h3 z z0 c
    have := great_ge (k := k) ok z0
    omega
  · exact c
theorem pow30 {z : Int} {m : Nat} (hm : m ≤ 30) (h : z < 10 ^ m) : z < 1000000000000000000000000000000 := by
  have e1 : (10 : Int) ^ m * 10 ^ (30 - m) = 10 ^ 30 := by rw [← Int.pow_add, show m + (30 - m) = 30 by omega]
  have a : (0 : Int) < 10 ^ m := Int.pow_pos (by decide)
  have b : (0 : Int) < 10 ^ (30 - m) := Int.pow_pos (by decide)
  have := Int.mul_le_mul_of_nonneg_left (a := 1) (b := (10 : Int) ^ (30 - m)) (c := 10 ^ m) (by omega) (by omega)
  have e : (10 : Int) ^ 30 = 1000000000000000000000000000000 := by decide
  omega
set_option hygiene false in
local macro_rules | `(tactic| walk_at "st") => `(tactic| first
  | ((with_reducible refine' w_aug ?h ?_); (case h => exact rfl))
  | (with_reducible first | refine w_bm ?_ | refine w_fldAug ?_ | refine w_seqU ?_ | refine w_enumL ?_)
  | ((with_reducible refine' w_tyL ?h ?_); (case h => walk_at "hp"))
  | ((with_reducible refine' w_enumLAt ?h ?_); (case h => walk_at "hp")))

set_option hygiene false in
local macro_rules | `(tactic| walk_at "st") => `(tactic| (with_reducible first | refine w_cmeth ?_ | refine w_pc ?_ | refine w_pn ?_))
local macro_rules | `(tactic| walk_at "cond") => `(tactic| first | exact two_div | (refine small_div ?_ ?_ <;> omega) | (refine small_mul ?_ ?_ <;> omega) | (refine small_mul' ?_ ?_ <;> omega) | (refine big_mul ?_ ?_ ?_ ?_ <;> omega))
section
variable {P : Program} {w : World} {K : PySem.W.Frag} {mg : Str → Option Value} {base : Heap}
theorem d_law_far (T : Txt K mg) (F : FD K mg "_law_far" s_law_far) (c_law_draw : Dn P w K mg base 1 "_law_draw" s_law_draw ["pen", "many"] (spDraw)) : Dn P w K mg base 2 "_law_far" s_law_far ["pen", "figures"] (spLFar) := by
  refine dn_of F (fun _ _ _ _ _ _ us hl => match us, hl with | [_, _], _ => rfl) sc_law_far (fun vs H Q E h => ?_) (fun fa cdv A outer s H vs Q E hr h => ?_)
  · obtain ⟨p, c, n, m, rfl, _⟩ := h
    rfl
  · obtain ⟨p, c, n, m, rfl, hp, hm, hn, k⟩ := h
    refine ⟨_, PSs.nox (pss_cons (ps_set (i := 2) sc_law_far.nd rfl (Or.inl rfl) pe_int)
 (pss_cons (ps_for PassesOwn.never rfl (pi_range1 rfl T.n_range (pa_cons (pv 1) pa_nil)) (pg_name (i := 3) sc_law_far.nd rfl (Or.inl rfl))
 (pss_one (ps_set (i := 2) sc_law_far.nd rfl (Or.inl rfl) (pe_op op_add (pe_op op_mulA (pv 2) pe_int) (pe_d c_law_draw hr (by decide) rfl (pa_cons (pv 0) (pa_cons pe_int pa_nil)))))))
 (pss_one (ps_ret (pv 2))))), ?_⟩
    refine w_start (σ := [some (.ref p), some (.int m), none, none]) rfl ?_
    repeat walk_at "st"
    with_reducible refine w_seq ?_
    repeat walk_at "st"
    refine L2.for_range (fun i σ' H' => ∃ z o, σ' = [some (.ref p), some (.int m), some (.int z), o] ∧ 0 ≤ z ∧ z < 10 ^ i ∧ Keep p H H' ∧ PenB H' p c (n + i)) ⟨0, none, rfl, Int.le_refl _, by simp, Keep.refl p H, by simpa using hp⟩ ?_ ?_
    · rintro i σ' H1 hi ⟨z, o, rfl, z0, z1, e1, hp1⟩
      have hi : i < m := by simpa using hi
      have b1 := pow30 (m := i) (by omega) z1
      repeat walk_at "st"
      refine ⟨p, c, 10, _, rfl, by decide, by decide, hp1, by omega, fun d H2 d0 d1 e2 hp2 => ?_⟩
      repeat walk_at "st"
      refine ⟨z * 10 + d, _, rfl, by omega, ?_, e1.trans e2, by rw [show n + ((i + 1 : Nat) : Int) = n + i + 1 by omega]; exact hp2⟩
      rw [Int.pow_succ]
      omega
    · rintro σ' H1 ⟨z, o, rfl, z0, z1, e1, hp1⟩
      have el : (m : Int).toNat = m := Int.toNat_natCast m
      repeat walk_at "st"
      exact k z H1 z0 (by simpa using z1) e1 (by simpa using hp1)
theorem d_law_plain (T : Txt K mg) (F : FD K mg "_law_plain" s_law_plain) (c_law_pick : Dn P w K mg base 2 "_law_pick" s_law_pick ["pen", "some"] (spPick K)) (c_law_draw : Dn P w K mg base 1 "_law_draw" s_law_draw ["pen", "many"] (spDraw)) : Dn P w K mg base 3 "_law_plain" s_law_plain ["pen"] (spLPlain K) := by
  refine dn_of F (fun _ _ _ _ _ _ us hl => match us, hl with | [_], _ => rfl) sc_law_plain (fun vs H Q E h => ?_) (fun fa cdv A outer s H vs Q E hr h => ?_)
  · obtain ⟨p, c, n, rfl, _⟩ := h
    rfl
  · obtain ⟨p, c, n, rfl, hp, hn, k⟩ := h
    refine ⟨_, PSs.nox (pss_cons (ps_par (i := 1) (j := 2) (by rfl) sc_law_plain.nd rfl rfl (by decide) rfl rfl (pa_cons (pe_d c_law_pick hr (by decide) rfl (pa_cons (pv 0) (pa_cons (pe_lst (pa_cons pe_str (pa_cons pe_str pa_nil))) pa_nil))) (pa_cons (pe_op op_add pe_int (pe_d c_law_draw hr (by decide) rfl (pa_cons (pv 0) (pa_cons (pe_d c_law_pick hr (by decide) rfl (pa_cons (pv 0) (pa_cons (pe_lst (pa_cons pe_int (pa_cons pe_int pa_nil))) pa_nil))) pa_nil)))) pa_nil)) (by rfl))
 (pss_cons (ps_set (i := 3) sc_law_plain.nd rfl (Or.inl rfl) (pe_d c_law_pick hr (by decide) rfl (pa_cons (pv 0) (pa_cons (pe_lst (pa_cons pe_str (pa_cons pe_str (pa_cons pe_str pa_nil)))) pa_nil))))
 (pss_one (ps_ret (pe_tup (pa_cons (pv 1) (pa_cons (pv 2) (pa_cons (pv 3) (pa_cons (pe_dget (hu_of hr) (pe_disp (pps_cons pe_str pe_non (pps_cons pe_str (pe_op op_add pe_int (pe_d c_law_draw hr (by decide) rfl (pa_cons (pv 0) (pa_cons pe_int pa_nil)))) (pps_cons pe_str (pe_op op_add pe_int (pe_d c_law_draw hr (by decide) rfl (pa_cons (pv 0) (pa_cons pe_int pa_nil)))) pps_nil))) (by rfl) (by rfl) (fun z => by cases z) (by decide)) (pv 3) (fun _ _ => rfl)) pa_nil))))))))), ?_⟩
    refine w_start (σ := [some (.ref p), none, none, none]) rfl ?_
    repeat walk_at "st"
    refine ⟨by walk_at "len", fun q hq => ?_⟩
    repeat walk_at "st"
    refine pick_new hq hp (by omega) (by decide) (by decide) fun v H1 hv e1 hp1 => ?_
    have hv' : ∃ hid : Bool, v = .str (SX.S (kindL hid)) := by
      simp only [List.mem_cons, List.not_mem_nil, or_false] at hv
      rcases hv with rfl | rfl
      · exact ⟨true, by decide +kernel⟩
      · exact ⟨false, by decide +kernel⟩
    obtain ⟨hid, rfl⟩ := hv'
    repeat walk_at "st"
    refine ⟨by walk_at "len", fun q hq => ?_⟩
    repeat walk_at "st"
    refine pick_new hq hp1 (by omega) (by decide) (by decide) fun v H2 hv e2 hp2 => ?_
    have hv' : ∃ b : Int, v = .int b ∧ 2 ≤ b ∧ b ≤ 25 := by
      simp only [List.mem_cons, List.not_mem_nil, or_false] at hv
      rcases hv with rfl | rfl
      · exact ⟨2, rfl, by decide, by decide⟩
      · exact ⟨25, rfl, by decide, by decide⟩
    obtain ⟨b, rfl, b0, b1⟩ := hv'
    repeat walk_at "st"
    refine ⟨p, c, b, _, rfl, by omega, PySem.Flt.log2_lt_of (by decide) (Nat.lt_of_le_of_lt (show b.natAbs ≤ 25 by omega) (by decide +kernel)), hp2, by omega, fun d H3 d0 d1 e3 hp3 => ?_⟩
    obtain ⟨sz, hsz⟩ : ∃ sz : Nat, 2 + d = (sz : Int) := ⟨(2 + d).toNat, by omega⟩
    repeat walk_at "st"
    rw [hsz]
    have z1 : 2 ≤ sz ∧ sz ≤ 26 := by omega
    refine ⟨by walk_at "len", fun q2 hq2 => ?_⟩
    repeat walk_at "st"
    refine pick_new hq2 hp3 (by omega) (by decide) (by decide) fun v H4 hv e4 hp4 => ?_
    have hv' : ∃ lk : LimK, v = .str (SX.S (limL lk)) ∧ lk ≠ .standing := by
      simp only [List.mem_cons, List.not_mem_nil, or_false] at hv
      rcases hv with rfl | rfl | rfl
      · exact ⟨.free, by decide +kernel, fun z => by cases z⟩
      · exact ⟨.cleared, by decide +kernel, fun z => by cases z⟩
      · exact ⟨.short, by decide +kernel, fun z => by cases z⟩
    obtain ⟨lk, rfl, nlk⟩ := hv'
    repeat walk_at "st"
    refine w_disp fun dd hdd => ?_
    have npd := hp4.free hdd
    have ncd := hp4.freeC hdd
    repeat walk_at "st"
    refine ⟨p, c, 4096, _, rfl, by decide, by decide +kernel, hp4.new hdd, by omega, fun b H5 b0 b1 e5 hp5 => ?_⟩
    repeat walk_at "st"
    refine ⟨p, c, 64, _, rfl, by decide, by decide, hp5, by omega, fun h H6 h0 h1 e6 hp6 => ?_⟩
    repeat walk_at "st"
    have hd6 : H6 dd = some (.dK []) := e6 _ _ npd (e5 _ _ npd upd_same)
    refine ⟨hd6, kvs3 .non (.int (1 + b)) (.int (1 + h)), rfl, by show 3 ≤ 15; decide, ?_⟩
    rw [merge3]
    have k4 := ((e1.trans e2).trans e3).trans e4
    have k6 : Keep p H4 H6 := (((Keep.refl p H4).alloc hp4 hdd).trans e5).trans e6
    have hdd6 : upd H6 dd (.dK (kvs3 .non (.int (1 + b)) (.int (1 + h)))) dd = some (.dK (kvs3 .non (.int (1 + b)) (.int (1 + h)))) := upd_same
    have hp7 := hp6.upd' (o := .dK (kvs3 .non (.int (1 + b)) (.int (1 + h)))) npd ncd
    have k7 : Keep p H (upd H6 dd (.dK (kvs3 .non (.int (1 + b)) (.int (1 + h))))) := fun z o hz hzo => by
      have hz3 := k4 z o hz hzo
      rw [upd_ne (ne_of_none hz3 hdd)]
      exact k6 z o hz hz3
    generalize upd H6 dd (.dK (kvs3 .non (.int (1 + b)) (.int (1 + h)))) = H7 at hdd6 hp7 k7 ⊢
    repeat walk_at "st"
    have dg := DGet.k (k := Sum.inr (SX.S (limL lk))) hdd6
    rw [get3 _ _ _ nlk] at dg
    refine ⟨dd, _, rfl, dg, ?_⟩
    repeat walk_at "st"
    refine ⟨by walk_at "len", fun t ht => ?_⟩
    have fin : ∀ m : Int, limOk lk m → toldV lk m = (match lk with | .free => V.non | .cleared => .int (1 + b) | .standing => .non | .short => .int (1 + h)) → Q (.ref t) (upd H7 t (.tup [.str (SX.S (kindL hid)), .int sz, .str (SX.S (limL lk)), (match lk with | .free => V.non | .cleared => .int (1 + b) | .standing => .non | .short => .int (1 + h))])) := fun m ok e =>
      k t ⟨hid, sz, lk, m⟩ _ (k7.alloc hp7 ht) (hp7.free ht) ⟨by rw [upd_same]; show _ = some (HO.tup [_, _, _, toldV lk m]); rw [e], ok, z1.1, z1.2⟩ nlk ((hp7.new ht).mono (by omega))
    cases lk with
    | free => exact fin 0 rfl rfl
    | cleared => exact fin (1 + b) (by constructor <;> omega) rfl
    | standing => exact (nlk rfl).elim
    | short => exact fin (1 + h) (by constructor <;> omega) rfl
theorem d_law_setting (T : Txt K mg) (F : FD K mg "_law_setting" s_law_setting) (c_Setting_read : Fr P w K mg base 8 (He5.wf K (He.ga K "Setting") "classmethod" "read") ["cls", "text"] [] (spSetRead K)) : Dn P w K mg base 11 "_law_setting" s_law_setting ["plain"] (spLSetting K) := by
  refine dn_of F (fun _ _ _ _ _ _ us hl => match us, hl with | [_], _ => rfl) sc_law_setting (fun vs H Q E h => ?_) (fun fa cdv A outer s H vs Q E hr h => ?_)
  · obtain ⟨t, S, rfl, _⟩ := h
    rfl
  · obtain ⟨t, S, rfl, ⟨ht, ok, q1, q2⟩, k⟩ := h
    refine ⟨_, PSs.nox (pss_cons (ps_asg (pv 0) (pg_tup rfl (pgs_cons (pg_name (i := 1) sc_law_setting.nd rfl (Or.inl rfl)) (pgs_cons (pg_name (i := 2) sc_law_setting.nd rfl (Or.inl rfl)) (pgs_cons (pg_name (i := 3) sc_law_setting.nd rfl (Or.inl rfl)) (pgs_cons (pg_name (i := 4) sc_law_setting.nd rfl (Or.inl rfl)) pgs_nil))))))
 (pss_one (ps_ret (pe_cmt c_Setting_read T.cr_Setting T.cm_read hr (by decide) (pe_gc (x := "Setting") rfl (T.gc_Setting)) (pa_cons (pe_op op_addS (pe_op op_addS (pe_op op_addS (pe_op op_addS (pe_op op_addS (pv 1) pe_str) (pe_callTy cl_strI (by rfl) T.n_str (by decide +kernel) (pa_cons (pv 2) pa_nil))) pe_str) (pv 3)) (pe_ifExp (pt_cmpR op_isN' (pv 4) pe_non (nomark _)) pe_str (pe_op op_addS pe_str (pe_callTy cl_strI (by rfl) T.n_str (by decide +kernel) (pa_cons (pv 4) pa_nil))))) pa_nil))))), ?_⟩
    have sz := sizeLine_eq
    have kl := kind_len S.hid
    have ql := intL_small (n := (S.q : Int)) (by omega) (by omega)
    have ll := limL_len S.lk
    obtain ⟨n0, n1⟩ := lim_small ok
    have nl := intL_small n0 (by omega)
    have lq : (S.q : Int).natAbs.log2 < 1920 := log_lt (by omega)
    have ln : S.ln.natAbs.log2 < 1920 := log_lt (by omega)
    refine w_start (σ := [some (.ref t), none, none, none, none]) rfl ?_
    repeat walk_at "st"
    refine ⟨rfl, ?_⟩
    repeat walk_at "st"
    rw [space_S]
    refine w_addS (by rw [sx_len, sx_len]; simp only [List.length_append, List.length_cons, List.length_nil]; omega) ?_
    rw [SX.S_cat]
    repeat walk_at "st"
    rw [toString_S]
    refine w_addS (by rw [sx_len, sx_len]; simp only [List.length_append, List.length_cons, List.length_nil]; omega) ?_
    rw [SX.S_cat]
    repeat walk_at "st"
    refine w_addS (by rw [sx_len, sx_len]; simp only [List.length_append, List.length_cons, List.length_nil]; omega) ?_
    rw [SX.S_cat]
    repeat walk_at "st"
    refine w_addS (by rw [sx_len, sx_len]; simp only [List.length_append, List.length_cons, List.length_nil]; omega) ?_
    rw [SX.S_cat]
    repeat walk_at "st"
    have et := text_eq S
    cases hk : S.lk with
    | free =>
      rw [hk] at ll et
      rw [show toldV .free S.ln = V.non from rfl]
      repeat walk_at "st"
      rw [show ("" : Str) = SX.S [] from rfl]
      refine w_addS (by rw [sx_len, sx_len]; simp only [List.length_append, List.length_cons, List.length_nil]; omega) ?_
      rw [SX.S_cat]
      repeat walk_at "st"
      exact ⟨_, S, by rw [et], ok, q1, q2, fun a H' e hS => k a H' e hS⟩
    | standing =>
      rw [hk] at ll et
      rw [show toldV .standing S.ln = V.int S.ln from rfl]
      repeat walk_at "st"
      rw [toString_S]
      refine w_addS (by rw [sx_len, sx_len]; simp only [List.length_append, List.length_cons, List.length_nil]; omega) ?_
      rw [SX.S_cat]
      refine w_addS (by rw [sx_len, sx_len]; simp only [List.length_append, List.length_cons, List.length_nil]; omega) ?_
      rw [SX.S_cat]
      repeat walk_at "st"
      exact ⟨_, S, by rw [et], ok, q1, q2, fun a H' e hS => k a H' e hS⟩
    | short =>
      rw [hk] at ll et
      rw [show toldV .short S.ln = V.int S.ln from rfl]
      repeat walk_at "st"
      rw [toString_S]
      refine w_addS (by rw [sx_len, sx_len]; simp only [List.length_append, List.length_cons, List.length_nil]; omega) ?_
      rw [SX.S_cat]
      refine w_addS (by rw [sx_len, sx_len]; simp only [List.length_append, List.length_cons, List.length_nil]; omega) ?_
      rw [SX.S_cat]
      repeat walk_at "st"
      exact ⟨_, S, by rw [et], ok, q1, q2, fun a H' e hS => k a H' e hS⟩
    | cleared =>
      rw [hk] at ll et
      rw [show toldV .cleared S.ln = V.int S.ln from rfl]
      repeat walk_at "st"
      rw [toString_S]
      refine w_addS (by rw [sx_len, sx_len]; simp only [List.length_append, List.length_cons, List.length_nil]; omega) ?_
      rw [SX.S_cat]
      refine w_addS (by rw [sx_len, sx_len]; simp only [List.length_append, List.length_cons, List.length_nil]; omega) ?_
      rw [SX.S_cat]
      repeat walk_at "st"
      exact ⟨_, S, by rw [et], ok, q1, q2, fun a H' e hS => k a H' e hS⟩
theorem d_law_free_letters (T : Txt K mg) (F : FD K mg "_law_free_letters" s_law_free_letters) : Dn P w K mg base 1 "_law_free_letters" s_law_free_letters ["plain", "many", "deepest"] (spLFreeL) := by
  refine dn_of F (fun _ _ _ _ _ _ us hl => match us, hl with | [_, _, _], _ => rfl) sc_law_free_letters (fun vs H Q E h => ?_) (fun fa cdv A outer s H vs Q E hr h => ?_)
  · obtain ⟨t, S, m, dp, rfl, _⟩ := h
    rfl
  · obtain ⟨t, S, m, dp, rfl, hP, hm, hlen, k⟩ := h
    refine ⟨_, PSs.nox (pss_cons (ps_asg (pe_tup (pa_cons (pe_ifExp (pt_cmpR op_eq (pe_ix ix_tup (pv 0) pe_int (fun _ _ => rfl)) pe_str (nomark _)) (pe_op op_mulA (pe_ix ix_tup (pv 0) pe_int (fun _ _ => rfl)) (pe_ix ix_tup (pv 0) pe_int (fun _ _ => rfl))) (pe_ix ix_tup (pv 0) pe_int (fun _ _ => rfl))) (pa_cons pe_int (pa_cons (pv 1) (pa_cons pe_int pa_nil))))) (pg_tup rfl (pgs_cons (pg_name (i := 3) sc_law_free_letters.nd rfl (Or.inl rfl)) (pgs_cons (pg_name (i := 4) sc_law_free_letters.nd rfl (Or.inl rfl)) (pgs_cons (pg_name (i := 5) sc_law_free_letters.nd rfl (Or.inl rfl)) (pgs_cons (pg_name (i := 6) sc_law_free_letters.nd rfl (Or.inl rfl)) pgs_nil))))))
 (pss_cons (ps_while PassesOwn.never (pt_cmpR op_gt (pv 5) pe_int (nomark _))
 (pss_cons (ps_set (i := 7) sc_law_free_letters.nd rfl (Or.inl rfl) (pe_ifExp (pt_cmpR op_eq (pv 4) (pv 2) (nomark _)) (pv 5) (pe_callB (call_min2 rfl) (by rfl) T.n_min (by decide +kernel) (pa_cons (pe_callTy cl_int1 (by rfl) T.n_int (by decide +kernel) (pa_cons (pv 3) pa_nil)) (pa_cons (pe_callTy cl_int1 (by rfl) T.n_int (by decide +kernel) (pa_cons (pv 5) pa_nil)) pa_nil)))))
 (pss_cons (ps_par (i := 6) (j := 5) (by rfl) sc_law_free_letters.nd rfl rfl (by decide) rfl rfl (pa_cons (pe_op op_add (pv 6) (pe_op op_mulA (pv 7) (pv 4))) (pa_cons (pe_op op_sub (pv 5) (pv 7)) pa_nil)) (by rfl))
 (pss_one (ps_par (i := 3) (j := 4) (by rfl) sc_law_free_letters.nd rfl rfl (by decide) rfl rfl (pa_cons (pe_op op_mulA (pv 3) (pe_ix ix_tup (pv 0) pe_int (fun _ _ => rfl))) (pa_cons (pe_op op_add (pv 4) pe_int) pa_nil)) (by rfl))))))
 (pss_one (ps_ret (pv 6))))), ?_⟩
    refine w_start (σ := [some (.ref t), some (.int m), some (deepV dp), none, none, none, none, none]) rfl ?_
    have ht := hP.1
    have ok := plT_ok hP
    have sz := sizeLine_eq
    have qi : 2 ≤ (S.q : Int) ∧ (S.q : Int) ≤ 26 := by have := ok.q1; have := ok.q2; omega
    have f2 := first_pos ok
    have hf : firstO S = if S.hid = true then (S.q : Int) * S.q else S.q := rfl
    have hc : ∀ d, 1 ≤ capO S dp d := fun d => by
      cases dp with
      | none => exact capG_pos (by omega) (by omega) d
      | some n => exact capS_pos (by omega) (by omega) d
    repeat walk_at "st"
    cases eh : S.hid
    case' true =>
      rw [eh] at ht
      refine w_iteT (by decide +kernel) ?_
      repeat walk_at "st"
      rw [show (S.q : Int) * S.q = firstO S by rw [hf, eh]; rfl]
    case' false =>
      rw [eh] at ht
      refine w_iteF (by decide +kernel) ?_
      repeat walk_at "st"
      rw [show V.int (S.q : Int) = V.int (firstO S) by rw [hf, eh]; rfl]
    all_goals
      refine ⟨by walk_at "len", fun tp htp => ?_⟩
      have e0 := same_newW (o := .tup [.int (firstO S), .int 1, .int m, .int 0]) htp
      have f0 : upd H tp (.tup [.int (firstO S), .int 1, .int m, .int 0]) tp = some (.tup [.int (firstO S), .int 1, .int m, .int 0]) := upd_same
      generalize upd H tp (.tup [.int (firstO S), .int 1, .int m, .int 0]) = H0 at e0 f0 ⊢
      have ht := hP.1
      repeat walk_at "st"
      with_reducible refine w_seq ?_
      refine ⟨fun u σ' H' => ∃ (F : List Int) (lf fd : Int) (o : Option V), σ' = [some (.ref t), some (.int m), some (deepV dp), some (.int (capG (firstO S) S.q (F.length + 1))), some (.int ((F.length + 1 : Nat) : Int)), some (.int lf), some (.int fd), o] ∧ u = lf.toNat ∧ Same H H' ∧ F ++ fill (capO S dp) (F.length + 1) lf = fill (capO S dp) 1 m ∧ fd + sumF (capO S dp) (F.length + 1) lf = sumF (capO S dp) 1 m ∧ lf ≤ m,
        ⟨_, [], m, 0, none, by rw [cap_start]; rfl, rfl, e0, rfl, Int.zero_add _, Int.le_refl _⟩, ?_⟩
      rintro u σ' H' ⟨F, lf, fd, o, rfl, rfl, e, hinv, hsum, hle⟩
      have fl : F.length ≤ 5000 := by
        have := congrArg List.length hinv
        rw [List.length_append] at this
        omega
      have nx0 := fun (h : 0 < lf) => fill_next hc hinv h
      have nc := fun x => cap_next (firstO S) S.q F x
      have ht' := e _ _ ht
      obtain ⟨cz, hcz⟩ : ∃ x, x = capG (firstO S) S.q (F.length + 1) := ⟨_, rfl⟩
      have c1 := hc (F.length + 1)
      have ecz : ∀ h : ¬ (some ((F.length + 1 : Nat) : Int) = dp), capO S dp (F.length + 1) = cz := fun h2 => by
        rw [hcz]
        cases dp with
        | none => rfl
        | some n =>
          show capS (firstO S) S.q n (F.length + 1) = _
          unfold capS
          rw [if_neg fun z => h2 (by rw [← z])]
      rw [← hcz] at nc ⊢
      obtain ⟨d, hd⟩ : ∃ x : Int, x = ((F.length + 1 : Nat) : Int) := ⟨_, rfl⟩
      rw [← hd] at ecz ⊢
      repeat walk_at "st"
      refine w_ite (fun h1 => ?_) (fun h1 => ?_)
      · have nx := nx0 (by omega)
        have ns : sumF (capO S dp) (F.length + 1) lf = d * min (capO S dp (F.length + 1)) lf + sumF (capO S dp) (F.length + 2) (lf - min (capO S dp (F.length + 1)) lf) := by
          unfold sumF
          rw [fill_cons hc (by omega), hd]
          rfl
        obtain ⟨tk, htk⟩ : ∃ x, x = min (capO S dp (F.length + 1)) lf := ⟨_, rfl⟩
        rw [← htk] at nx ns
        have fin : ∃ (F' : List Int) (lf' fd' : Int) (o : Option V), [some (V.ref t), some (.int m), some (deepV dp), some (.int (cz * S.q)), some (.int (d + 1)), some (.int (lf - tk)), some (.int (fd + tk * d)), some (.int tk)] = [some (.ref t), some (.int m), some (deepV dp), some (.int (capG (firstO S) S.q (F'.length + 1))), some (.int ((F'.length + 1 : Nat) : Int)), some (.int lf'), some (.int fd'), o] ∧ (lf - tk).toNat = lf'.toNat ∧ F' ++ fill (capO S dp) (F'.length + 1) lf' = fill (capO S dp) 1 m ∧ fd' + sumF (capO S dp) (F'.length + 1) lf' = sumF (capO S dp) 1 m ∧ lf' ≤ m := by
          refine ⟨F ++ [tk], lf - tk, fd + tk * d, some (.int tk), ?_, rfl, nx, ?_, by omega⟩
          · rw [nc, List.length_append, hd]
            rfl
          · rw [List.length_append, Int.mul_comm tk d]
            show fd + d * tk + sumF (capO S dp) (F.length + 2) _ = _
            omega
        obtain ⟨F', lf', fd', o', eq1, eq2, eq3, eq4, eq5⟩ := fin
        refine ⟨_, fun σ' H' h => h, ?_⟩
        repeat walk_at "st"
        refine ⟨by cases dp <;> rfl, ?_⟩
        rw [intD]
        repeat walk_at "st"
        refine w_ite (fun h2 => ?_) (fun h2 => ?_)
        · have etk : lf = tk := by
            rw [htk]
            cases dp with
            | none => cases h2
            | some n =>
              injection h2 with h2
              have e3 : capO S (some n) (F.length + 1) = big40 := by
                show capS (firstO S) S.q n (F.length + 1) = big40
                unfold capS
                rw [if_pos (by omega)]
              rw [e3]
              have : big40 = 10000000000000000000000000000000000000000 := rfl
              omega
          repeat walk_at "st"
          rw [etk] at eq1 eq2 ⊢
          exact ⟨_, by omega, F', lf', fd', o', eq1, eq2, e, eq3, eq4, eq5⟩
        · repeat walk_at "st"
          refine ⟨_, _, rfl, ?_⟩
          have etk : (if lf < cz then lf else cz) = tk := by
            rw [htk, ecz h2, min_if]
          rw [etk]
          repeat walk_at "st"
          exact ⟨_, by omega, F', lf', fd', o', eq1, eq2, e, eq3, eq4, eq5⟩
      · repeat walk_at "st"
        have z : sumF (capO S dp) (F.length + 1) lf = 0 := sumF_nil (by omega)
        rw [z, Int.add_zero] at hsum
        rw [hsum]
        exact k H' e
theorem d_law_letters (T : Txt K mg) (F : FD K mg "_law_letters" s_law_letters) (c_law_free_letters : Dn P w K mg base 1 "_law_free_letters" s_law_free_letters ["plain", "many", "deepest"] (spLFreeL)) : Dn P w K mg base 2 "_law_letters" s_law_letters ["plain", "many"] (spLLetters K) := by
  refine dn_of F (fun _ _ _ _ _ _ us hl => match us, hl with | [_, _], _ => rfl) sc_law_letters (fun vs H Q E h => ?_) (fun fa cdv A outer s H vs Q E hr h => ?_)
  · obtain ⟨t, S, m, rfl, _⟩ := h
    rfl
  · obtain ⟨t, S, m, rfl, hP, ns, hm, k⟩ := h
    obtain ⟨m0, m1⟩ := id hm
    have ht := hP.1
    have ok := plT_ok hP
    have lim := ok.lim
    obtain ⟨n0, n1⟩ := lim_small lim
    have ld := len_dp ok ns m0
    obtain ⟨z1, z2⟩ := limC S.lk
    have fl : ∀ x : Int, x ≤ 1000000000000000000000000000000 → (fill (capO S none) 1 x).length ≤ 5000 := fun x hx => Nat.le_trans (free_len ok (m := x) (by omega)) (by decide)
    refine ⟨_, PSs.nox (pss_cons (ps_asg (pv 0) (pg_tup rfl (pgs_cons (pg_name (i := 2) sc_law_letters.nd rfl (Or.inl rfl)) (pgs_cons (pg_name (i := 3) sc_law_letters.nd rfl (Or.inl rfl)) (pgs_cons (pg_name (i := 4) sc_law_letters.nd rfl (Or.inl rfl)) (pgs_cons (pg_name (i := 5) sc_law_letters.nd rfl (Or.inl rfl)) pgs_nil))))))
 (pss_cons (ps_if (pt_cmpR op_eq (pv 4) pe_str (nomark _))
 (pss_one (ps_ret (pe_op op_add (pe_op op_mulA (pe_op op_fdivW (pv 1) (pv 5)) (pe_d c_law_free_letters hr (by decide) rfl (pa_cons (pv 0) (pa_cons (pv 5) (pa_cons pe_non pa_nil))))) (pe_d c_law_free_letters hr (by decide) rfl (pa_cons (pv 0) (pa_cons (pe_op op_mod (pv 1) (pv 5)) (pa_cons pe_non pa_nil)))))))
 pss_nil)
 (pss_one (ps_ret (pe_d c_law_free_letters hr (by decide) rfl (pa_cons (pv 0) (pa_cons (pv 1) (pa_cons (pe_ifExp (pt_cmpR op_eq (pv 4) pe_str (nomark _)) (pv 5) pe_non) pa_nil)))))))), ?_⟩
    refine w_start (σ := [some (.ref t), some (.int m), none, none, none, none]) rfl ?_
    repeat walk_at "st"
    cases hk : S.lk with
    | standing => exact (ns hk).elim
    | cleared =>
      rw [hk] at z1 z2 ld ht lim
      rw [show toldV .cleared S.ln = V.int S.ln from rfl] at ht
      have l1 : 1 ≤ S.ln ∧ S.ln ≤ 4096 := lim
      try rw [show toldV .cleared S.ln = V.int S.ln from rfl]
      with_reducible refine w_seq ?_
      repeat walk_at "st"
      try rw [z1]
      repeat walk_at "st"
      have hc : ∀ d, 1 ≤ capO S none d := freeC_pos ok
      obtain ⟨b0, b1⟩ := sum_block hc (l := S.ln) n0 n1
      have r0 := Int.emod_nonneg m (show S.ln ≠ 0 by omega)
      have r1 := Int.emod_lt_of_pos m (show 0 < S.ln by omega)
      refine ⟨t, S, S.ln, none, rfl, hP, by omega, fl _ (by omega), fun H1 e1 => ?_⟩
      generalize sumF (capO S none) 1 S.ln = sb at ld b0 b1 ⊢
      repeat walk_at "st"
      refine ⟨t, S, m % S.ln, none, rfl, plT_same e1 hP, by omega, fl _ (by omega), fun H2 e2 => ?_⟩
      repeat walk_at "st"
      rw [ld] at k
      exact k H2 (e1.trans e2)
    | free =>
      rw [hk] at z1 z2 ld ht
      rw [show toldV .free S.ln = V.non from rfl] at ht
      try rw [show toldV .free S.ln = V.non from rfl]
      with_reducible refine w_seq ?_
      repeat walk_at "st"
      try rw [z1]
      repeat walk_at "st"
      try rw [z2]
      repeat walk_at "st"
      refine ⟨t, S, m, none, rfl, hP, m1, fl m m1, fun H1 e1 => ?_⟩
      rw [ld] at k
      exact k H1 e1
    | short =>
      rw [hk] at z1 z2 ld ht
      rw [show toldV .short S.ln = V.int S.ln from rfl] at ht
      try rw [show toldV .short S.ln = V.int S.ln from rfl]
      with_reducible refine w_seq ?_
      repeat walk_at "st"
      try rw [z1]
      repeat walk_at "st"
      try rw [z2]
      repeat walk_at "st"
      refine ⟨t, S, m, some S.ln, rfl, hP, m1, Nat.le_trans (short_len ok hk (m := m) (by omega)) (by decide), fun H1 e1 => ?_⟩
      rw [ld] at k
      exact k H1 e1
theorem d_law_greatest (T : Txt K mg) (F : FD K mg "_law_greatest" s_law_greatest) : Dn P w K mg base 1 "_law_greatest" s_law_greatest ["plain", "codes"] (spLGreat K) := by
  refine dn_of F (fun _ _ _ _ _ _ us hl => match us, hl with | [_, _], _ => rfl) sc_law_greatest (fun vs H Q E h => ?_) (fun fa cdv A outer s H vs Q E hr h => ?_)
  · obtain ⟨t, S, m, rfl, _⟩ := h
    rfl
  · obtain ⟨t, S, m, rfl, hP, ns, hm, k⟩ := h
    obtain ⟨m0, m1⟩ := id hm
    have ht := hP.1
    have ok := plT_ok hP
    have lim := ok.lim
    obtain ⟨n0, n1⟩ := lim_small lim
    obtain ⟨z1, z2⟩ := limC S.lk
    have z3 := limF S.lk
    refine ⟨_, PSs.nox (pss_cons (ps_asg (pv 0) (pg_tup rfl (pgs_cons (pg_name (i := 2) sc_law_greatest.nd rfl (Or.inl rfl)) (pgs_cons (pg_name (i := 3) sc_law_greatest.nd rfl (Or.inl rfl)) (pgs_cons (pg_name (i := 4) sc_law_greatest.nd rfl (Or.inl rfl)) (pgs_cons (pg_name (i := 5) sc_law_greatest.nd rfl (Or.inl rfl)) pgs_nil))))))
 (pss_cons (ps_if (PW.pt (pw_or (pt_cmpR op_eq (pv 4) pe_str (nomark _)) (pw_or1 (PW.pt (pw_and (pt_cmpR op_eq (pv 4) pe_str (nomark _)) (pw_and1 (pt_cmpR op_le (pv 1) (pv 5) (nomark _))))))))
 (pss_one (ps_ret (pe_op op_fdivW (pe_op op_mulA (pv 1) (pe_op op_add (pv 1) pe_int)) pe_int)))
 pss_nil)
 (pss_cons (ps_if (pt_cmpR op_eq (pv 4) pe_str (nomark _))
 (pss_one (ps_ret (pe_op op_add (pe_op op_fdivW (pe_op op_mulA (pv 5) (pe_op op_add (pv 5) pe_int)) pe_int) (pe_op op_mulA (pe_op op_sub (pv 1) (pv 5)) (pv 5)))))
 pss_nil)
 (pss_one (ps_ret (pe_op op_add (pe_op op_mulA (pe_op op_fdivW (pv 1) (pv 5)) (pe_op op_fdivW (pe_op op_mulA (pv 5) (pe_op op_add (pv 5) pe_int)) pe_int)) (pe_op op_fdivW (pe_op op_mulA (pe_op op_mod (pv 1) (pv 5)) (pe_op op_add (pe_op op_mod (pv 1) (pv 5)) pe_int)) pe_int))))))), ?_⟩
    refine w_start (σ := [some (.ref t), some (.int m), none, none, none, none]) rfl ?_
    repeat walk_at "st"
    cases hk : S.lk with
    | standing => exact (ns hk).elim
    | cleared =>
      rw [hk] at z1 z2 z3 ht lim k
      rw [show toldV .cleared S.ln = V.int S.ln from rfl] at ht
      have l1 : 1 ≤ S.ln ∧ S.ln ≤ 4096 := lim
      try rw [show toldV .cleared S.ln = V.int S.ln from rfl]
      with_reducible refine w_seq ?_
      repeat walk_at "st"
      try rw [z3]
      repeat walk_at "st"
      try rw [z2]
      repeat walk_at "st"
      try rw [z2]
      repeat walk_at "st"
      have r0 := Int.emod_nonneg m (show S.ln ≠ 0 by omega)
      have r1 := Int.emod_lt_of_pos m (show 0 < S.ln by omega)
      have d0 := Int.ediv_nonneg m0 (show 0 ≤ S.ln by omega)
      have d1 := Int.ediv_le_self S.ln m0
      have t1 : 0 ≤ S.ln * (S.ln + 1) / 2 ∧ S.ln * (S.ln + 1) / 2 ≤ 100000000 := by
        have a := Int.mul_le_mul (a := S.ln) (c := 4096) (b := S.ln + 1) (d := 4097) n1 (by omega) (by omega) (by decide)
        have b := Int.mul_nonneg n0 (show 0 ≤ S.ln + 1 by omega)
        omega
      obtain ⟨tt, htt⟩ : ∃ x, x = S.ln * (S.ln + 1) / 2 := ⟨_, rfl⟩
      with_reducible refine w_seq ?_
      repeat walk_at "st"
      try rw [z2]
      repeat walk_at "st"
      try rw [← htt]
      rw [← htt] at t1
      repeat walk_at "st"
      have e : greatO LimK.cleared S.ln m = m / S.ln * tt + m % S.ln * (m % S.ln + 1) / 2 := by rw [htt]; rfl
      rw [← e]
      exact k H (Same.refl H)
    | free =>
      rw [hk] at z1 z2 z3 ht k
      rw [show toldV .free S.ln = V.non from rfl] at ht
      try rw [show toldV .free S.ln = V.non from rfl]
      with_reducible refine w_seq ?_
      repeat walk_at "st"
      try rw [z3]
      repeat walk_at "st"
      exact k H (Same.refl H)
    | short =>
      rw [hk] at z1 z2 z3 ht k lim
      rw [show toldV .short S.ln = V.int S.ln from rfl] at ht
      have l1 : 1 ≤ S.ln ∧ S.ln ≤ 64 := lim
      try rw [show toldV .short S.ln = V.int S.ln from rfl]
      with_reducible refine w_seq ?_
      repeat walk_at "st"
      try rw [z3]
      repeat walk_at "st"
      try rw [z2]
      repeat walk_at "st"
      refine w_ite (fun h1 => ?_) (fun h1 => ?_)
      · repeat walk_at "st"
        have e : greatO LimK.short S.ln m = m * (m + 1) / 2 := if_pos h1
        rw [← e]
        exact k H (Same.refl H)
      · repeat walk_at "st"
        with_reducible refine w_seq ?_
        repeat walk_at "st"
        try rw [z2]
        repeat walk_at "st"
        have e : greatO LimK.short S.ln m = S.ln * (S.ln + 1) / 2 + (m - S.ln) * S.ln := if_neg h1
        rw [← e]
        exact k H (Same.refl H)
end

end Pt_law56a
section Pt_lawsp
def spLaw (K : PySem.W.Frag) : Sp := fun vs H Q _ => ∃ (a : Addr) (ns : List Int), vs = [.ref a] ∧ SqL K H a (ns.map V.int) ∧ ∀ H', Q (.bl true) H'
theorem law_start {K : PySem.W.Frag} {H : Hp} {a : Addr} {ns : List Int} (hS : SqL K H a (ns.map V.int)) (hl : ns.length ≤ 63) : spLaw K [.ref a] H (fun v _ => v = .bl true) fun _ _ _ => False := ⟨a, ns, rfl, hS, fun _ => rfl⟩

end Pt_lawsp
section Pt_law56
/-! ### the law -/
theorem code_small {S : Sg} (ok : SgOk S) {n r : Int} {i : Nat} (h : (i : Int) ≤ 1000000000000000000000000000000) : (codeO S n r i).length ≤ 10000 := by
  have := code_len ok (spO_as ok r) h
  unfold codeO
  split
  · exact this
  · rw [List.length_take]
    omega
theorem pow29 {z : Int} {m : Nat} (hm : m ≤ 29) (h : z < 10 ^ m) : z < 100000000000000000000000000000 := by
  have e1 : (10 : Int) ^ m * 10 ^ (29 - m) = 10 ^ 29 := by rw [← Int.pow_add, show m + (29 - m) = 29 by omega]
  have x1 : (0 : Int) < 10 ^ m := Int.pow_pos (by decide)
  have x2 : (0 : Int) < 10 ^ (29 - m) := Int.pow_pos (by decide)
  have := Int.mul_le_mul_of_nonneg_left (a := 1) (b := (10 : Int) ^ (29 - m)) (c := 10 ^ m) (by omega) (by omega)
  have e : (10 : Int) ^ 29 = 100000000000000000000000000000 := by decide
  omega
theorem w_neTupB {K : PySem.W.Frag} {H : Hp} {Q : VK} {a b : Addr} {x y : Int} (ha : H a = some (.tup [.int x, .int y])) (hb : H b = some (.tup [.int x, .int y])) (q : Q (.bl false) H) : rNeD K (.ref a) (.ref b) H Q := by
  refine w_neD (b := true) (d := tupI [x, y]) (e := tupI [x, y]) (dp_tupI ha) (dp_tupI hb) (tupI_shaped _) (tupI_shaped _) ?_ q
  exact SeqAt.eqv_refl _ ((Bool.and_eq_true_iff.mp (tupI_shaped _)).1)
theorem SetAt.keep {K : PySem.W.Frag} {p c : Addr} {n : Int} {H H' : Hp} {a : Addr} {S : Sg} (e : Keep p H H') (hp : PenB H p c n) (h : SetAt K H a S) : SetAt K H' a S := by
  obtain ⟨cells, y3, y2, y1, _⟩ := hp
  obtain ⟨dx2, l2, g2, ⟨dl2, g3⟩, g4⟩ := h
  have nn : ∀ {b C d : Addr} {fs : List (Str × V)}, H b = some (.ins C d fs) → b ≠ p := fun hb z => by
    rw [z, y1] at hb
    cases hb
  exact ⟨dx2, l2, e _ _ (nn g2) g2, ⟨dl2, e _ _ (nn g3) g3⟩, g4⟩
section
variable {v : V} {a0 a1 a2 a3 a4 a5 a6 a7 a8 a9 a10 a11 a12 a13 a14 a15 a16 a17 : Option V} {rs : L2.St} {H : Hp} {Q : VK} {R : L2.St → Hp → Prop}
theorem w_v13 (q : Q v H) : tVar 13 (a0 :: a1 :: a2 :: a3 :: a4 :: a5 :: a6 :: a7 :: a8 :: a9 :: a10 :: a11 :: a12 :: some v :: rs) H Q := ⟨v, rfl, q⟩
theorem w_v14 (q : Q v H) : tVar 14 (a0 :: a1 :: a2 :: a3 :: a4 :: a5 :: a6 :: a7 :: a8 :: a9 :: a10 :: a11 :: a12 :: a13 :: some v :: rs) H Q := ⟨v, rfl, q⟩
theorem w_v15 (q : Q v H) : tVar 15 (a0 :: a1 :: a2 :: a3 :: a4 :: a5 :: a6 :: a7 :: a8 :: a9 :: a10 :: a11 :: a12 :: a13 :: a14 :: some v :: rs) H Q := ⟨v, rfl, q⟩
theorem w_v16 (q : Q v H) : tVar 16 (a0 :: a1 :: a2 :: a3 :: a4 :: a5 :: a6 :: a7 :: a8 :: a9 :: a10 :: a11 :: a12 :: a13 :: a14 :: a15 :: some v :: rs) H Q := ⟨v, rfl, q⟩
theorem w_v17 (q : Q v H) : tVar 17 (a0 :: a1 :: a2 :: a3 :: a4 :: a5 :: a6 :: a7 :: a8 :: a9 :: a10 :: a11 :: a12 :: a13 :: a14 :: a15 :: a16 :: some v :: rs) H Q := ⟨v, rfl, q⟩
theorem w_g13 (q : R (a0 :: a1 :: a2 :: a3 :: a4 :: a5 :: a6 :: a7 :: a8 :: a9 :: a10 :: a11 :: a12 :: some v :: rs) H) : gName 13 v (a0 :: a1 :: a2 :: a3 :: a4 :: a5 :: a6 :: a7 :: a8 :: a9 :: a10 :: a11 :: a12 :: a13 :: rs) H R := q
theorem w_g14 (q : R (a0 :: a1 :: a2 :: a3 :: a4 :: a5 :: a6 :: a7 :: a8 :: a9 :: a10 :: a11 :: a12 :: a13 :: some v :: rs) H) : gName 14 v (a0 :: a1 :: a2 :: a3 :: a4 :: a5 :: a6 :: a7 :: a8 :: a9 :: a10 :: a11 :: a12 :: a13 :: a14 :: rs) H R := q
theorem w_g15 (q : R (a0 :: a1 :: a2 :: a3 :: a4 :: a5 :: a6 :: a7 :: a8 :: a9 :: a10 :: a11 :: a12 :: a13 :: a14 :: some v :: rs) H) : gName 15 v (a0 :: a1 :: a2 :: a3 :: a4 :: a5 :: a6 :: a7 :: a8 :: a9 :: a10 :: a11 :: a12 :: a13 :: a14 :: a15 :: rs) H R := q
theorem w_g16 (q : R (a0 :: a1 :: a2 :: a3 :: a4 :: a5 :: a6 :: a7 :: a8 :: a9 :: a10 :: a11 :: a12 :: a13 :: a14 :: a15 :: some v :: rs) H) : gName 16 v (a0 :: a1 :: a2 :: a3 :: a4 :: a5 :: a6 :: a7 :: a8 :: a9 :: a10 :: a11 :: a12 :: a13 :: a14 :: a15 :: a16 :: rs) H R := q
theorem w_g17 (q : R (a0 :: a1 :: a2 :: a3 :: a4 :: a5 :: a6 :: a7 :: a8 :: a9 :: a10 :: a11 :: a12 :: a13 :: a14 :: a15 :: a16 :: some v :: rs) H) : gName 17 v (a0 :: a1 :: a2 :: a3 :: a4 :: a5 :: a6 :: a7 :: a8 :: a9 :: a10 :: a11 :: a12 :: a13 :: a14 :: a15 :: a16 :: a17 :: rs) H R := q
end
set_option hygiene false in
local macro_rules | `(tactic| walk_at "st") => `(tactic| first
  | ((with_reducible refine' w_aug ?h ?_); (case h => exact rfl))
  | (with_reducible first | refine w_bm ?_ | refine w_fldAug ?_ | refine w_seqU ?_ | refine w_enumL ?_)
  | ((with_reducible refine' w_tyL ?h ?_); (case h => walk_at "hp"))
  | ((with_reducible refine' w_enumLAt ?h ?_); (case h => walk_at "hp")))

set_option hygiene false in
local macro_rules | `(tactic| walk_at "st") => `(tactic| (with_reducible first | refine w_m1 ?_ | refine w_seqP3 ?_ | refine w_par3 ?_ | refine w_v13 ?_ | refine w_v14 ?_ | refine w_v15 ?_ | refine w_v16 ?_ | refine w_v17 ?_ | refine w_g13 ?_ | refine w_g14 ?_ | refine w_g15 ?_ | refine w_g16 ?_ | refine w_g17 ?_))
set_option hygiene false in
local macro_rules | `(tactic| walk_at "na") => `(tactic| first | exact T.na_lvs_codes | exact T.na_lvs_letters | exact T.na_lvs_counts)
set_option hygiene false in
local macro_rules | `(tactic| walk_at "cl") => `(tactic| exact T.cl_lvs)
local macro_rules | `(tactic| walk_at "cond") => `(tactic| first | exact two_div | (refine small_div ?_ ?_ <;> omega) | (refine small_mul ?_ ?_ <;> omega) | (refine small_mul' ?_ ?_ <;> omega) | (refine big_mul ?_ ?_ ?_ ?_ <;> omega))
section
variable {P : Program} {w : World} {K : PySem.W.Frag} {mg : Str → Option Value} {base : Heap}
theorem law_ok {f : Addr} {fd : FuncData} (T : Txt K mg) (F : FunD K "law" "law" (defArgs s_law) (defBody s_law) (defScope s_law) [] [] f fd) (c_law_pen : Dn P w K mg base 1 "_law_pen" s_law_pen ["script"] (spPen K)) (c_law_plain : Dn P w K mg base 3 "_law_plain" s_law_plain ["pen"] (spLPlain K)) (c_levels : Dn P w K mg base 16 "levels" s_levels ["setting", "n"] (spLevels K)) (c_law_setting : Dn P w K mg base 11 "_law_setting" s_law_setting ["plain"] (spLSetting K)) (c_most : Dn P w K mg base 14 "most" s_most ["setting", "n"] (spMost K)) (c_fewest : Dn P w K mg base 10 "fewest" s_fewest ["setting", "n"] (spFewest K)) (c_worst_code : Dn P w K mg base 16 "worst_code" s_worst_code ["setting", "n", "i"] (spWorstCode K)) (c_law_draw : Dn P w K mg base 1 "_law_draw" s_law_draw ["pen", "many"] (spDraw)) (c_law_far : Dn P w K mg base 2 "_law_far" s_law_far ["pen", "figures"] (spLFar)) (c_law_greatest : Dn P w K mg base 1 "_law_greatest" s_law_greatest ["plain", "codes"] (spLGreat K)) (c_shows_levels : Dn P w K mg base 12 "shows_levels" s_shows_levels ["setting", "n", "value"] (spShows K)) (c_law_letters : Dn P w K mg base 2 "_law_letters" s_law_letters ["plain", "many"] (spLLetters K)) (c_worst_place : Dn P w K mg base 16 "worst_place" s_worst_place ["setting", "n", "k"] (spWorstPlace K)) (c_worst_letter : Dn P w K mg base 16 "worst_letter" s_worst_letter ["setting", "n", "k"] (spWorstLetter K)) : FnOk P w K mg base CX0 19 f fd ["script"] (spLaw K) := by
  refine F.ok sc_law (fun vs H Q E h => ?_) (fun cdv A outer s H vs Q E hr h => ?_)
  · obtain ⟨a, ns, rfl, _⟩ := h
    rfl
  · obtain ⟨a, ns, rfl, hS, k⟩ := h
    have sz := sizeLine_eq
    refine ⟨_, PSs.nox (pss_cons (ps_set (i := 1) sc_law.nd rfl (Or.inl rfl) (pe_d c_law_pen hr (by decide) rfl (pa_cons (pv 0) pa_nil)))
 (pss_cons (ps_for PassesOwn.never rfl (pi_range1 rfl T.n_range (pa_cons pe_int pa_nil)) (pg_name (i := 2) sc_law.nd rfl (Or.inl rfl))
 (pss_cons (ps_set (i := 3) sc_law.nd rfl (Or.inl rfl) (pe_d c_law_plain hr (by decide) rfl (pa_cons (pv 1) pa_nil)))
 (pss_cons (ps_par (i := 4) (j := 5) (by rfl) sc_law.nd rfl rfl (by decide) rfl rfl (pa_cons (pe_d c_law_setting hr (by decide) rfl (pa_cons (pv 3) pa_nil)) (pa_cons (pe_op op_add pe_int (pe_d c_law_far hr (by decide) rfl (pa_cons (pv 1) (pa_cons (pe_op op_add pe_int (pe_d c_law_draw hr (by decide) rfl (pa_cons (pv 1) (pa_cons pe_int pa_nil)))) pa_nil)))) pa_nil)) (by rfl))
 (pss_cons (ps_par (i := 6) (j := 7) (by rfl) sc_law.nd rfl rfl (by decide) rfl rfl (pa_cons (pe_d c_most hr (by decide) rfl (pa_cons (pv 4) (pa_cons (pv 5) pa_nil))) (pa_cons (pe_d c_fewest hr (by decide) rfl (pa_cons (pv 4) (pa_cons (pv 5) pa_nil))) pa_nil)) (by rfl))
 (pss_cons (ps_if (PW.pt (pw_or (pt_cmpR op_gt (pe_op op_add (pe_d c_law_letters hr (by decide) rfl (pa_cons (pv 3) (pa_cons (pe_op op_sub (pv 6) pe_int) pa_nil))) pe_int) (pv 5) (nomark _)) (pw_or1 (pt_cmpR op_le (pe_op op_add (pe_d c_law_letters hr (by decide) rfl (pa_cons (pv 3) (pa_cons (pv 6) pa_nil))) pe_int) (pv 5) (nomark _)))))
 (pss_one (ps_ret pe_bl))
 pss_nil)
 (pss_cons (ps_if (PW.pt (pw_or (pt_cmpR op_lt (pe_d c_law_greatest hr (by decide) rfl (pa_cons (pv 3) (pa_cons (pv 7) pa_nil))) (pv 5) (nomark _)) (pw_or1 (pt_cmpR op_ge (pe_d c_law_greatest hr (by decide) rfl (pa_cons (pv 3) (pa_cons (pe_op op_sub (pv 7) pe_int) pa_nil))) (pv 5) (nomark _)))))
 (pss_one (ps_ret pe_bl))
 pss_nil)
 (pss_cons (ps_set (i := 8) sc_law.nd rfl (Or.inl rfl) (pe_d c_levels hr (by decide) rfl (pa_cons (pv 4) (pa_cons (pv 5) pa_nil))))
 (pss_cons (ps_if (PW.pt (pw_or (pt_cmpR op_ne (pe_fld (pv 8) rfl) (pv 6) (nomark _)) (pw_or (pt_cmpR op_ne (pe_fld (pv 8) rfl) (pe_op op_add (pe_d c_law_letters hr (by decide) rfl (pa_cons (pv 3) (pa_cons (pe_op op_sub (pv 6) pe_int) pa_nil))) pe_int) (nomark _)) (pw_or (pt_cmpR op_ne (pe_callB (cr_sumT rfl) (by rfl) T.n_sum (by decide +kernel) (pa_cons (pe_fld (pv 8) rfl) pa_nil)) (pe_op op_sub (pv 6) pe_int) (nomark _)) (pw_or1 (pt_cmpR op_isNotB (pe_d c_shows_levels hr (by decide) rfl (pa_cons (pv 4) (pa_cons (pv 5) (pa_cons (pv 8) pa_nil)))) pe_bl (nomark _)))))))
 (pss_one (ps_ret pe_bl))
 pss_nil)
 (pss_one (ps_for PassesOwn.never rfl (pi_range1 rfl T.n_range (pa_cons pe_int pa_nil)) (pg_name (i := 9) sc_law.nd rfl (Or.inl rfl))
 (pss_cons (ps_set (i := 10) sc_law.nd rfl (Or.inl rfl) (pe_op op_mod (pe_d c_law_far hr (by decide) rfl (pa_cons (pv 1) (pa_cons pe_int pa_nil))) (pv 6)))
 (pss_cons (ps_par (i := 11) (j := 12) (by rfl) sc_law.nd rfl rfl (by decide) rfl rfl (pa_cons (pe_d c_law_letters hr (by decide) rfl (pa_cons (pv 3) (pa_cons (pv 10) pa_nil))) (pa_cons (pe_ifExp (pt_cmpR op_lt (pe_op op_add (pv 10) pe_int) (pv 6) (nomark _)) (pe_d c_law_letters hr (by decide) rfl (pa_cons (pv 3) (pa_cons (pe_op op_add (pv 10) pe_int) pa_nil))) (pv 5)) pa_nil)) (by rfl))
 (pss_cons (ps_set (i := 13) sc_law.nd rfl (Or.inl rfl) (pe_d c_worst_code hr (by decide) rfl (pa_cons (pv 4) (pa_cons (pv 5) (pa_cons (pv 10) pa_nil)))))
 (pss_cons (ps_if (PW.pt (pw_or (pt_cmpR op_ne (pe_callB cl_lenS (by rfl) T.n_len (by decide +kernel) (pa_cons (pv 13) pa_nil)) (pe_op op_sub (pv 12) (pv 11)) (nomark _)) (pw_or (pt_cmpR (op_neD hr.units) (pe_d c_worst_place hr (by decide) rfl (pa_cons (pv 4) (pa_cons (pv 5) (pa_cons (pv 11) pa_nil)))) (pe_tup (pa_cons (pv 10) (pa_cons pe_int pa_nil))) (nomark _)) (pw_or1 (pt_cmpR (op_neD hr.units) (pe_d c_worst_place hr (by decide) rfl (pa_cons (pv 4) (pa_cons (pv 5) (pa_cons (pe_op op_sub (pv 12) pe_int) pa_nil)))) (pe_tup (pa_cons (pv 10) (pa_cons (pe_op op_sub (pe_callB cl_lenS (by rfl) T.n_len (by decide +kernel) (pa_cons (pv 13) pa_nil)) pe_int) pa_nil))) (nomark _))))))
 (pss_one (ps_ret pe_bl))
 pss_nil)
 (pss_cons (ps_set (i := 14) sc_law.nd rfl (Or.inl rfl) (pe_d c_law_draw hr (by decide) rfl (pa_cons (pv 1) (pa_cons (pe_callB cl_lenS (by rfl) T.n_len (by decide +kernel) (pa_cons (pv 13) pa_nil)) pa_nil))))
 (pss_one (ps_if (PW.pt (pw_or (pt_cmpR op_ne (pe_d c_worst_letter hr (by decide) rfl (pa_cons (pv 4) (pa_cons (pv 5) (pa_cons (pe_op op_add (pv 11) (pv 14)) pa_nil)))) (pe_ix ix_str (pv 13) (pv 14) (fun _ _ => rfl)) (nomark _)) (pw_or1 (pt_cmpR (op_neD hr.units) (pe_d c_worst_place hr (by decide) rfl (pa_cons (pv 4) (pa_cons (pv 5) (pa_cons (pe_op op_add (pv 11) (pv 14)) pa_nil)))) (pe_tup (pa_cons (pv 10) (pa_cons (pv 14) pa_nil))) (nomark _)))))
 (pss_one (ps_ret pe_bl))
 pss_nil)))))))))))))))))
 (pss_one (ps_ret pe_bl)))), ?_⟩
    refine w_start (σ := [some (.ref a), none, none, none, none, none, none, none, none, none, none, none, none, none, none]) rfl ?_
    repeat walk_at "st"
    refine ⟨a, ns, rfl, hS, fun p c H1 p0 s1 hp1 => ?_⟩
    repeat walk_at "st"
    with_reducible refine w_seq ?_
    repeat walk_at "st"
    refine L2.for_range (fun i σ' H' => ∃ o2 o3 o4 o5 o6 o7 o8 o9 o10 o11 o12 o13 o14, σ' = [some (.ref a), some (.ref p), o2, o3, o4, o5, o6, o7, o8, o9, o10, o11, o12, o13, o14] ∧ PenB H' p c (1000 * i)) ⟨none, none, none, none, none, none, none, none, none, none, none, none, none, rfl, by simpa using hp1⟩ ?_ ?_
    · rintro i σ' H2 hi ⟨o2, o3, o4, o5, o6, o7, o8, o9, o10, o11, o12, o13, o14, rfl, hp2⟩
      have hi4 : i < 4 := hi
      repeat walk_at "st"
      refine ⟨p, c, _, rfl, hp2, by omega, fun t S H3 e3 ntp hP ns hp3 => ?_⟩
      repeat walk_at "st"
      refine ⟨t, S, rfl, hP, fun m1 H4 e4 hS4 => ?_⟩
      have hP4 := plT_same e4 hP
      have hp4 := hp3.same e4
      have ok := plT_ok hP
      have lo := noSt_loose ns
      have tw : ∀ z, TellsW S z := fun z y => by rw [lo] at y; cases y
      repeat walk_at "st"
      refine ⟨p, c, 29, _, rfl, by decide, by decide, hp4, by omega, fun za H5 za0 za1 e5 hp5 => ?_⟩
      repeat walk_at "st"
      obtain ⟨fg, hfg⟩ : ∃ x : Nat, 1 + za = (x : Int) := ⟨(1 + za).toNat, by omega⟩
      refine ⟨p, c, _, fg, by rw [hfg]; rfl, hp5, by omega, by omega, fun z0 H6 z00 z01 e6 hp6 => ?_⟩
      have zb : z0 < 100000000000000000000000000000 := by
        exact pow29 (by omega) z01
      obtain ⟨z, hz⟩ : ∃ x, x = 1 + z0 := ⟨_, rfl⟩
      have z1 : 1 ≤ z ∧ z ≤ 100000000000000000000000000000 := by omega
      have bz : BigI z := ⟨by omega, by omega⟩
      repeat walk_at "st"
      rw [← hz]
      have hP6 : PlT H6 t S := ⟨e6 _ _ ntp (e5 _ _ ntp hP4.1), hP4.2⟩
      have hS6 := (hS4.keep e5 hp4).keep e6 hp5
      refine ⟨m1, S, z, rfl, hS6, ok, bz, tw _, fun r H7 hr e7 => ?_⟩
      have hP7 := plT_same e7 hP6
      have hS7 := hS6.same e7
      have hp7 := hp6.same e7
      have r1 := most_one ok hr (by omega)
      obtain ⟨q1, q2, q3⟩ := most_len ok ns hr r1
      have rz : r ≤ z := by
        have := least_ge ok (c := r) (by omega) (fun y => by rw [lo] at y; cases y)
        omega
      repeat walk_at "st"
      refine ⟨m1, S, z, rfl, hS7, ok.lim, bz, fun f H8 e8 hf => ?_⟩
      have hP8 := plT_same e8 hP7
      have hS8 := hS7.same e8
      have hp8 := hp7.same e8
      have fb := few_bound ok.lim (by omega) hf
      obtain ⟨f0, f1, f2⟩ := id hf
      have f3 : 1 ≤ f := by
        rcases Int.lt_or_le f 1 with y | y
        · have y : f = 0 := by omega
          rw [y, great_zero ok.lim] at f1
          omega
        · exact y
      repeat walk_at "st"
      with_reducible refine w_seq ?_
      repeat walk_at "st"
      refine ⟨t, S, r - 1, rfl, hP8, ns, ⟨by omega, by omega⟩, fun H9 e9 => ?_⟩
      have hP9 := plT_same e9 hP8
      have hS9 := hS8.same e9
      have hp9 := hp8.same e9
      repeat walk_at "st"
      rw [decide_eq_false (show ¬ z < lenO S (r - 1) + 1 by omega)]
      repeat walk_at "st"
      refine ⟨t, S, r, rfl, hP9, ns, ⟨by omega, by omega⟩, fun HA eA => ?_⟩
      have hPA := plT_same eA hP9
      have hSA := hS9.same eA
      have hpA := hp9.same eA
      repeat walk_at "st"
      refine w_iteF (decide_eq_false (by omega)) ?_
      repeat walk_at "st"
      with_reducible refine w_seq ?_
      repeat walk_at "st"
      refine ⟨t, S, f, rfl, hPA, ns, ⟨by omega, by omega⟩, fun HB eB => ?_⟩
      have hPB := plT_same eB hPA
      have hSB := hSA.same eB
      have hpB := hpA.same eB
      repeat walk_at "st"
      rw [decide_eq_false (show ¬ greatO S.lk S.ln f < z by omega)]
      repeat walk_at "st"
      refine ⟨t, S, f - 1, rfl, hPB, ns, ⟨by omega, by omega⟩, fun HC eC => ?_⟩
      have hPC := plT_same eC hPB
      have hSC := hSB.same eC
      have hpC := hpB.same eC
      have gf := f2 (f - 1) (by omega) (by omega)
      repeat walk_at "st"
      refine w_iteF (decide_eq_false (by omega)) ?_
      repeat walk_at "st"
      clear hP4 hp4 hS4 hP6 hS6 hP7 hS7 hp7 hP8 hS8 hp8 hP9 hS9 hp9 hPA hSA hpA hPB hSB hpB hp5 hp6
      refine ⟨m1, S, z, rfl, hSC, ok, bz, tw _, fun r' x HD hr' eD hL => ?_⟩
      have er := hr'.one hr
      subst er
      have hPD := plT_same eD hPC
      have hSD := hSC.same eD
      have hpD := hpC.same eD
      obtain ⟨dx, tc, hx, htc⟩ := id hL
      obtain ⟨cg, csum, clet⟩ := cntL_good ok (r := r')
      have clen := cntL_len ok (r := r') (by omega)
      repeat walk_at "st"
      with_reducible refine w_seq ?_
      repeat walk_at "st"
      rw [decide_eq_true (rfl : V.int r' = V.int r')]
      repeat walk_at "st"
      refine ⟨t, S, r' - 1, rfl, hPD, ns, ⟨by omega, by omega⟩, fun HE eE => ?_⟩
      have hPE := plT_same eE hPD
      have hSE := hSD.same eE
      have hpE := hpD.same eE
      have hLE := hL.same eE
      have hxE := eE _ _ hx
      have htE := eE _ _ htc
      clear hPD hSD hpD
      repeat walk_at "st"
      rw [decide_eq_true (show V.int (leastO S r') = V.int (lenO S (r' - 1) + 1) by rw [q1])]
      repeat walk_at "st"
      refine ⟨tc, _, rfl, SqT.of htE, ?_⟩
      rw [csum r1]
      repeat walk_at "st"
      rw [decide_eq_true (rfl : V.int (r' - 1) = V.int (r' - 1))]
      repeat walk_at "st"
      refine ⟨m1, S, z, x, r', rfl, hSE, ok, bz, tw _, hr', hLE, fun HF eF => ?_⟩
      have hPF := plT_same eF hPE
      have hSF := hSE.same eF
      have hpF := hpE.same eF
      clear hPE hSE hpE
      repeat walk_at "st"
      refine L2.for_range (fun j σ' H' => ∃ o9 o10 o11 o12 o13 o14, σ' = [some (.ref a), some (.ref p), some (.int (0 + (i : Int))), some (.ref t), some (.ref m1), some (.int z), some (.int r'), some (.int f), some (.ref x), o9, o10, o11, o12, o13, o14] ∧ PlT H' t S ∧ SetAt K H' m1 S ∧ PenB H' p c (1000 * i + 100 + 100 * j)) ⟨_, _, _, _, _, _, rfl, hPF, hSF, by simpa using hpF.mono (by omega)⟩ ?_ ?_
      · rintro j σ' HG hj ⟨o9, o10, o11, o12, o13, o14, rfl, hPG, hSG, hpG⟩
        have hj4 : j < 4 := hj
        repeat walk_at "st"
        refine ⟨p, c, _, 30, rfl, hpG, by omega, by omega, fun y0 HH y00 y01 eH hpH => ?_⟩
        repeat walk_at "st"
        obtain ⟨at', hat⟩ : ∃ x : Nat, y0 % r' = x := ⟨(y0 % r').toNat, by have := Int.emod_nonneg y0 (show r' ≠ 0 by omega); omega⟩
        have ar : (at' : Int) < r' := by rw [← hat]; exact Int.emod_lt_of_pos _ (by omega)
        rw [hat]
        have hPH : PlT HH t S := ⟨eH _ _ ntp hPG.1, hPG.2⟩
        have hSH := hSG.keep eH hpG
        obtain ⟨b1, b2, b3, b4⟩ := code_ends ok ns hr' ar
        have b0 := len_less ok ns (a := 0) (b := (at' : Int)) (by omega) (by omega)
        rw [len_zero ok] at b0
        refine ⟨t, S, at', rfl, hPH, ns, ⟨by omega, by omega⟩, fun HI eI => ?_⟩
        have hPI := plT_same eI hPH
        have hSI := hSH.same eI
        have hpI := hpH.same eI
        obtain ⟨en, hen⟩ : ∃ x, x = endO S z r' at' := ⟨_, rfl⟩
        rw [← hen] at b1 b2 b3 b4
        by_cases cn : (at' : Int) + 1 < r'
        case' pos =>
          have he : en = lenO S ((at' : Int) + 1) := by rw [hen]; exact if_pos cn
          repeat walk_at "st"
          rw [decide_eq_true cn]
          repeat walk_at "st"
          refine ⟨t, S, (at' : Int) + 1, rfl, hPI, ns, ⟨by omega, by omega⟩, fun HJ eJ => ?_⟩
          rw [← he]
          have hSJ := hSI.same eJ
          have hPJ := plT_same eJ hPI
          have hpJ := hpI.same eJ
        case' neg =>
          have he : en = z := by rw [hen]; exact if_neg cn
          repeat walk_at "st"
          rw [decide_eq_false cn]
          repeat walk_at "st"
          have hSJ := hSI
          have hPJ := hPI
          have hpJ := hpI
        all_goals
          repeat walk_at "st"
          refine ⟨m1, S, z, at', rfl, hSJ, ok, bz, ⟨by omega, by omega⟩, tw _, fun r2 hr2 => by rw [hr2.one hr']; exact ar, fun r2 HK hr2 eK => ?_⟩
          obtain rfl : r' = r2 := hr'.one hr2
          have hPK := plT_same eK hPJ
          have hSK := hSJ.same eK
          have hpK := hpJ.same eK
          repeat walk_at "st"
        all_goals
          with_reducible refine w_seq ?_
          repeat walk_at "st"
          have cl : (codeO S z r' at').length ≤ 10000 := code_small ok (by omega)
          refine w_lenS (by rw [sx_len]; omega) ?_
          rw [sx_len]
          repeat walk_at "st"
          rw [decide_eq_true (show V.int (((codeO S z r' at').length : Nat) : Int) = V.int (_ - lenO S at') by rw [b3, he])]
          repeat walk_at "st"
          refine ⟨m1, S, z, lenO S at', rfl, hSK, ok, bz, by omega, by omega, tw _, fun r2 i2 t2 HL hr2 i1 i2' i3 eL h2 => ?_⟩
          obtain rfl : r' = r2 := hr'.one hr2
          rw [noSt_sp ns] at i2' i3 h2
          obtain rfl : i2 = at' := place_one ok ns hr' ar (Int.le_refl _) (by rw [← hen]; omega) i1 i2' i3
          rw [show begO S none ((i2 : Nat) : Int) = lenO S i2 from rfl, Int.sub_self] at h2
          have hPL := plT_same eL hPK
          have hSL := hSK.same eL
          have hpL := hpK.same eL
          repeat walk_at "st"
          refine ⟨by walk_at "len", fun u1 hu1 => ?_⟩
          have eM := same_newW (o := .tup [.int (i2 : Nat), .int 0]) hu1
          have fM : upd HL u1 (.tup [.int (i2 : Nat), .int 0]) u1 = some (.tup [.int (i2 : Nat), .int 0]) := upd_same
          generalize upd HL u1 (.tup [.int (i2 : Nat), .int 0]) = HM at eM fM ⊢
          have hPM := plT_same eM hPL
          have hSM := hSL.same eM
          have hpM := hpL.same eM
          refine w_neTupB (eM _ _ h2) fM ?_
          repeat walk_at "st"
          refine ⟨m1, S, z, _, rfl, hSM, ok, bz, by omega, by omega, tw _, fun r2 j2 t3 HN hr2 j1 j2' j3 eN h3 => ?_⟩
          obtain rfl : r' = r2 := hr'.one hr2
          rw [noSt_sp ns] at j2' j3 h3
          obtain rfl : j2 = i2 := place_one ok ns hr' ar (by omega) (by rw [← hen]; omega) j1 j2' j3
          have h3 : HN t3 = some (.tup [.int (j2 : Nat), .int (((codeO S z r' j2).length : Nat) - 1)]) := h3.trans (congrArg (fun y => some (HO.tup [V.int (j2 : Nat), V.int y])) (by show _ - 1 - lenO S j2 = _; omega))
          have hPN := plT_same eN hPM
          have hSN := hSM.same eN
          have hpN := hpM.same eN
          repeat walk_at "st"
          refine w_lenS (by rw [sx_len]; omega) ?_
          rw [sx_len]
          repeat walk_at "st"
          refine ⟨by walk_at "len", fun u2 hu2 => ?_⟩
          have eO := same_newW (o := .tup [.int (j2 : Nat), .int (((codeO S z r' j2).length : Nat) - 1)]) hu2
          have fO : upd HN u2 (.tup [.int (j2 : Nat), .int (((codeO S z r' j2).length : Nat) - 1)]) u2 = some (.tup [.int (j2 : Nat), .int (((codeO S z r' j2).length : Nat) - 1)]) := upd_same
          generalize upd HN u2 (.tup [.int (j2 : Nat), .int (((codeO S z r' j2).length : Nat) - 1)]) = HO' at eO fO ⊢
          have hPO := plT_same eO hPN
          have hSO := hSN.same eO
          have hpO := hpN.same eO
          clear hPJ hSJ hpJ hPK hSK hpK hPL hSL hpL hPM hSM hpM
          refine w_neTupB (eO _ _ h3) fO ?_
          repeat walk_at "st"
          refine w_lenS (by rw [sx_len]; omega) ?_
          rw [sx_len]
          repeat walk_at "st"
          refine ⟨p, c, (codeO S z r' j2).length, _, rfl, by omega, log2_small (by omega), hpO, by omega, fun d HQ d0 d1 eQ hpQ => ?_⟩
          have hPQ : PlT HQ t S := ⟨eQ _ _ ntp hPO.1, hPO.2⟩
          have hSQ := hSO.keep eQ hpO
          obtain ⟨dn, hdn⟩ : ∃ x : Nat, d = x := ⟨d.toNat, by omega⟩
          subst hdn
          have hdl : dn < (codeO S z r' j2).length := by omega
          repeat walk_at "st"
          refine ⟨m1, S, z, lenO S j2 + dn, rfl, hSQ, ok, bz, by omega, by omega, tw _, fun r2 k2 hr2 k1 k2' k3 => ?_⟩
          obtain rfl : r' = r2 := hr'.one hr2
          rw [noSt_sp ns] at k2' k3 ⊢
          obtain rfl : k2 = j2 := place_one ok ns hr' ar (by omega) (by rw [← hen]; omega) k1 k2' k3
          have gc := List.getElem?_eq_getElem hdl
          have gw : (wordO S none k2)[(lenO S k2 + dn - begO S none (k2 : Nat)).toNat]? = some (codeO S z r' k2)[dn] := by
            rw [show lenO S k2 + dn - begO S none ((k2 : Nat) : Int) = ((dn : Nat) : Int) by show _ - lenO S k2 = _; omega, Int.toNat_natCast, ← code_word ns hdl]
            exact gc
          have cw := code_len ok (sp := none) (fun s y => by cases y) (i := k2) (by omega)
          refine ⟨_, gw, by omega, fun HR eR => ?_⟩
          have hPR := plT_same eR hPQ
          have hSR := hSQ.same eR
          have hpR := hpQ.same eR
          repeat walk_at "st"
          refine ⟨_, _, (codeO S z r' k2)[dn], rfl, rfl, by rw [sx_len]; omega, L2.atI_nat gc, ?_⟩
          repeat walk_at "st"
          rw [decide_eq_true (show V.str (SX.S [(codeO S z r' k2)[dn]]) = V.str { cps := #[(codeO S z r' k2)[dn]] } from rfl)]
          repeat walk_at "st"
          refine ⟨m1, S, z, lenO S k2 + dn, rfl, hSR, ok, bz, by omega, by omega, tw _, fun r2 l2 t4 HT hr2 l1 l2' l3 eT h4 => ?_⟩
          obtain rfl : r' = r2 := hr'.one hr2
          rw [noSt_sp ns] at l2' l3 h4
          obtain rfl : l2 = k2 := place_one ok ns hr' ar (by omega) (by rw [← hen]; omega) l1 l2' l3
          have h4 : HT t4 = some (.tup [.int (l2 : Nat), .int (dn : Nat)]) := h4.trans (congrArg (fun y => some (HO.tup [V.int (l2 : Nat), V.int y])) (by show _ - lenO S l2 = _; omega))
          have hPT := plT_same eT hPR
          have hST := hSR.same eT
          have hpT := hpR.same eT
          repeat walk_at "st"
          refine ⟨by walk_at "len", fun u3 hu3 => ?_⟩
          have eU := same_newW (o := .tup [.int (l2 : Nat), .int (dn : Nat)]) hu3
          have fU : upd HT u3 (.tup [.int (l2 : Nat), .int (dn : Nat)]) u3 = some (.tup [.int (l2 : Nat), .int (dn : Nat)]) := upd_same
          generalize upd HT u3 (.tup [.int (l2 : Nat), .int (dn : Nat)]) = HU at eU fU ⊢
          refine w_neTupB (eU _ _ h4) fU ?_
          repeat walk_at "st"
          exact ⟨_, _, _, _, _, _, rfl, plT_same eU hPT, hST.same eU, (hpT.same eU).mono (by omega)⟩
      · rintro σ' HG ⟨o9, o10, o11, o12, o13, o14, rfl, hPG, hSG, hpG⟩
        repeat walk_at "st"
        exact ⟨_, _, _, _, _, _, _, _, _, _, _, _, _, rfl, hpG.mono (by omega)⟩
    · rintro σ' H2 ⟨o2, o3, o4, o5, o6, o7, o8, o9, o10, o11, o12, o13, o14, rfl, hp2⟩
      repeat walk_at "st"
      exact k _
end

end Pt_law56
theorem facts {P : Program} {w : World} {K : PySem.W.Frag} {h : Heap} {mg : Str → Option Value} {f : Addr} (X : K.In h) (G : h.Ns mainGlobals mg) (hfa : mg ("law" : Str) = some (.ref f)) (c : GSays gfs gds K) :
    ∃ fd : FuncData, (∀ (s : Shared) (v : Value), BindsTo s fd ⟨[v], []⟩ [("script", v)]) ∧ ∀ base : Heap, K.In base → base.Ns mainGlobals mg → FnOk P w K mg base CX0 19 f fd ["script"] (spLaw K) := by
  have T : Txt K mg := ⟨He.free_ok X G (c.fact 48),
    He.free_ok X G (c.fact 49),
    He.free_ok X G (c.fact 50),
    He.free_ok X G (c.fact 51),
    He.free_ok X G (c.fact 52),
    He.free_ok X G (c.fact 53),
    He.free_ok X G (c.fact 54),
    He.free_ok X G (c.fact 55),
    He.free_ok X G (c.fact 56),
    He.free_ok X G (c.fact 57),
    He.free_ok X G (c.fact 58),
    He.free_ok X G (c.fact 59),
    He.free_ok X G (c.fact 60),
    He.free_ok X G (c.fact 61),
    He.free_ok X G (c.fact 62),
    glob_i (He.int_ok X G (c.fact 63)),
    glob_i (He.int_ok X G (c.fact 64)),
    glob_i (He.int_ok X G (c.fact 65)),
    glob_i (He.int_ok X G (c.fact 66)),
    glob_i (He.int_ok X G (c.fact 67)),
    glob_s (He.str_ok X G (c.fact 68)),
    fun k => match k with | .free => He.cls_ok (c.fact 69) | .short => He.cls_ok (c.fact 70) | .cleared => He.cls_ok (c.fact 71) | .standing => He.cls_ok (c.fact 72),
    fun k => match k with | .free => He.noat_ok (c.fact 73) | .short => He.noat_ok (c.fact 74) | .cleared => He.noat_ok (c.fact 75) | .standing => He.noat_ok (c.fact 76),
    He.noat_ok (c.fact 77),
    He.noat_ok (c.fact 78),
    He.noat_ok (c.fact 79),
    fun k => match k with | .free => He.mkr_ok (c.fact 80) | .short => He.mkr_ok (c.fact 81) | .cleared => He.mkr_ok (c.fact 82) | .standing => He.mkr_ok (c.fact 83),
    fun k => match k with | .free => He.glo_ok X G (c.fact 84) | .short => He.glo_ok X G (c.fact 85) | .cleared => He.glo_ok X G (c.fact 86) | .standing => He.glo_ok X G (c.fact 87),
    fun k => match k with | .free => isa_ok (c.fact 88) | .short => isa_ok (c.fact 89) | .cleared => isa_ok (c.fact 90) | .standing => isa_ok (c.fact 91),
    He.glo_ok X G (c.fact 92),
    He.glo_ok X G (c.fact 93),
    clsCon_ok (c.fact 94),
    clsCon_ok (c.fact 95),
    fun h => match h with | true => He.cls_ok (c.fact 96) | false => He.cls_ok (c.fact 97),
    fun h => match h with | true => He.noat_ok (c.fact 98) | false => He.noat_ok (c.fact 99),
    fun h => match h with | true => He.noat_ok (c.fact 100) | false => He.noat_ok (c.fact 101),
    fun h => match h with | true => He.mkr_ok (c.fact 102) | false => He.mkr_ok (c.fact 103),
    He.glo_ok X G (c.fact 104),
    He.glo_ok X G (c.fact 105),
    fun h => match h with | true => prop_ok (c.fact 106) | false => prop_ok (c.fact 107),
    He.glo_ok X G (c.fact 108),
    He.glo_ok X G (c.fact 109),
    He.cls_ok (c.fact 110),
    He.noat_ok (c.fact 111),
    He.mkr_ok (c.fact 112),
    call_ok (c.fact 113),
    fun k d => match k, d with | .free, .free => isaB_ok (c.fact 114) | .free, .short => isaB_ok (c.fact 115) | .free, .cleared => isaB_ok (c.fact 116) | .free, .standing => isaB_ok (c.fact 117) | .short, .free => isaB_ok (c.fact 118) | .short, .short => isaB_ok (c.fact 119) | .short, .cleared => isaB_ok (c.fact 120) | .short, .standing => isaB_ok (c.fact 121) | .cleared, .free => isaB_ok (c.fact 122) | .cleared, .short => isaB_ok (c.fact 123) | .cleared, .cleared => isaB_ok (c.fact 124) | .cleared, .standing => isaB_ok (c.fact 125) | .standing, .free => isaB_ok (c.fact 126) | .standing, .short => isaB_ok (c.fact 127) | .standing, .cleared => isaB_ok (c.fact 128) | .standing, .standing => isaB_ok (c.fact 129),
    fun h => match h with | true => isa_ok (c.fact 130) | false => isa_ok (c.fact 131),
    read_ok (c.fact 132),
    cm_ok (c.fact 133),
    fun k => match k with | .free => clsCon_ok (c.fact 134) | .short => clsCon_ok (c.fact 135) | .cleared => clsCon_ok (c.fact 136) | .standing => clsCon_ok (c.fact 137),
    fun h => match h with | true => clsCon_ok (c.fact 138) | false => clsCon_ok (c.fact 139),
    He.glo_ok X G (c.fact 140),
    (c.fact 141),
    fun h => match h with | true => isaB_ok (c.fact 142) | false => isaB_ok (c.fact 143),
    He.glo_ok X G (c.fact 144),
    He.cls_ok (c.fact 145),
    He.noat_ok (c.fact 146),
    He.mkr_ok (c.fact 147),
    call_ok (c.fact 148),
    He.meth_ok (c.fact 149),
    He.meth_ok (c.fact 150),
    He.meth_ok (c.fact 151),
    He.meth_ok (c.fact 152),
    He.meth_ok (c.fact 153),
    He.meth_ok (c.fact 154),
    He.noat_ok (c.fact 155),
    He.noat_ok (c.fact 156),
    He.noat_ok (c.fact 157),
    He.noat_ok (c.fact 158),
    He.cls_ok (c.fact 159),
    He.glo_ok X G (c.fact 160),
    He.mkr_ok (c.fact 161),
    He.glo_ok X G (c.fact 162),
    (c.fact 163),
    He.noat_ok (c.fact 164),
    He.noat_ok (c.fact 165),
    He.noat_ok (c.fact 166),
    He.cls_ok (c.fact 167),
    He.glo_ok X G (c.fact 168),
    He.mkr_ok (c.fact 169),
    isaB_ok (c.fact 170),
    He.meth_ok (c.fact 171)⟩
  have F_is_int : FD K mg "is_int" s_is_int := fd_of (c.at_ 0 (d := gd0) rfl) (He.glo_ok X G (c.fact 0))
  have F_number_of : FD K mg "number_of" s_number_of := fd_of (c.at_ 1 (d := gd1) rfl) (He.glo_ok X G (c.fact 1))
  have F_Free___init__ : FA K "__init__" "Free.__init__" s_Free___init__ [] (He.ma K (cLim K .free) "__init__") := c.at_ 2 (d := gd2) rfl
  have F_need_setting : FD K mg "need_setting" s_need_setting := fd_of (c.at_ 3 (d := gd3) rfl) (He.glo_ok X G (c.fact 2))
  have F_first_level : FD K mg "first_level" s_first_level := fd_of (c.at_ 4 (d := gd4) rfl) (He.glo_ok X G (c.fact 3))
  have F_filled_but : FD K mg "filled_but" s_filled_but := fd_of (c.at_ 5 (d := gd5) rfl) (He.glo_ok X G (c.fact 4))
  have F_letters_in : FD K mg "letters_in" s_letters_in := fd_of (c.at_ 6 (d := gd6) rfl) (He.glo_ok X G (c.fact 5))
  have F_added : FD K mg "added" s_added := fd_of (c.at_ 7 (d := gd7) rfl) (He.glo_ok X G (c.fact 6))
  have F_Levels___init__ : FA K "__init__" "Levels.__init__" s_Levels___init__ [] (He.ma K (He.ga K "Levels") "__init__") := c.at_ 8 (d := gd8) rfl
  have F_place_letter : FD K mg "place_letter" s_place_letter := fd_of (c.at_ 9 (d := gd9) rfl) (He.glo_ok X G (c.fact 7))
  have F_digits_of : FD K mg "digits_of" s_digits_of := fd_of (c.at_ 10 (d := gd10) rfl) (He.glo_ok X G (c.fact 8))
  have F_spared_level : FD K mg "spared_level" s_spared_level := fd_of (c.at_ 11 (d := gd11) rfl) (He.glo_ok X G (c.fact 9))
  have F_law_pen : FD K mg "_law_pen" s_law_pen := fd_of (c.at_ 12 (d := gd12) rfl) (He.glo_ok X G (c.fact 10))
  have F_law_draw : FD K mg "_law_draw" s_law_draw := fd_of (c.at_ 13 (d := gd13) rfl) (He.glo_ok X G (c.fact 11))
  have F_law_free_letters : FD K mg "_law_free_letters" s_law_free_letters := fd_of (c.at_ 14 (d := gd14) rfl) (He.glo_ok X G (c.fact 12))
  have F_law_greatest : FD K mg "_law_greatest" s_law_greatest := fd_of (c.at_ 15 (d := gd15) rfl) (He.glo_ok X G (c.fact 13))
  have F_is_between : FD K mg "is_between" s_is_between := fd_of (c.at_ 16 (d := gd16) rfl) (He.glo_ok X G (c.fact 14))
  have F_Most___init__ : FA K "__init__" "Most.__init__" s_Most___init__ [] (He.ma K (He.ga K "Most") "__init__") := c.at_ 17 (d := gd17) rfl
  have F_Fewest___init__ : FA K "__init__" "Fewest.__init__" s_Fewest___init__ [] (He.ma K (He.ga K "Fewest") "__init__") := c.at_ 18 (d := gd18) rfl
  have F_are_counts : FD K mg "are_counts" s_are_counts := fd_of (c.at_ 19 (d := gd19) rfl) (He.glo_ok X G (c.fact 15))
  have F_law_pick : FD K mg "_law_pick" s_law_pick := fd_of (c.at_ 20 (d := gd20) rfl) (He.glo_ok X G (c.fact 16))
  have F_law_far : FD K mg "_law_far" s_law_far := fd_of (c.at_ 21 (d := gd21) rfl) (He.glo_ok X G (c.fact 17))
  have F_law_letters : FD K mg "_law_letters" s_law_letters := fd_of (c.at_ 22 (d := gd22) rfl) (He.glo_ok X G (c.fact 18))
  have F_need_number : FD K mg "need_number" s_need_number := fd_of (c.at_ 23 (d := gd23) rfl) (He.glo_ok X G (c.fact 19))
  have F_need_letters : FD K mg "need_letters" s_need_letters := fd_of (c.at_ 24 (d := gd24) rfl) (He.glo_ok X G (c.fact 20))
  have F_Short___init__ : FA K "__init__" "Short.__init__" s_Short___init__ [] (He.ma K (cLim K .short) "__init__") := c.at_ 25 (d := gd25) rfl
  have F_Cleared___init__ : FA K "__init__" "Cleared.__init__" s_Cleared___init__ [] (He.ma K (cLim K .cleared) "__init__") := c.at_ 26 (d := gd26) rfl
  have F_Standing___init__ : FA K "__init__" "Standing.__init__" s_Standing___init__ [] (He.ma K (cLim K .standing) "__init__") := c.at_ 27 (d := gd27) rfl
  have F_spared_counts : FD K mg "spared_counts" s_spared_counts := fd_of (c.at_ 28 (d := gd28) rfl) (He.glo_ok X G (c.fact 21))
  have F_is_loose : FD K mg "is_loose" s_is_loose := fd_of (c.at_ 29 (d := gd29) rfl) (He.glo_ok X G (c.fact 22))
  have F_longest_code : FD K mg "longest_code" s_longest_code := fd_of (c.at_ 30 (d := gd30) rfl) (He.glo_ok X G (c.fact 23))
  have F_Worst_hidden_word : FA K "hidden_word" "Worst.hidden_word" s_Worst_hidden_word [] (He.ma K (He.ga K "Worst") "hidden_word") := c.at_ 31 (d := gd31) rfl
  have F_Worst_told_word : FA K "told_word" "Worst.told_word" s_Worst_told_word [] (He.ma K (He.ga K "Worst") "told_word") := c.at_ 32 (d := gd32) rfl
  have F_Worst_spared_word : FA K "spared_word" "Worst.spared_word" s_Worst_spared_word [] (He.ma K (He.ga K "Worst") "spared_word") := c.at_ 33 (d := gd33) rfl
  have F_law_plain : FD K mg "_law_plain" s_law_plain := fd_of (c.at_ 34 (d := gd34) rfl) (He.glo_ok X G (c.fact 24))
  have F_need_size : FD K mg "need_size" s_need_size := fd_of (c.at_ 35 (d := gd35) rfl) (He.glo_ok X G (c.fact 25))
  have F_Worst_whole_word : FA K "whole_word" "Worst.whole_word" s_Worst_whole_word [] (He.ma K (He.ga K "Worst") "whole_word") := c.at_ 36 (d := gd36) rfl
  have F_limit_at : FD K mg "limit_at" s_limit_at := fd_of (c.at_ 37 (d := gd37) rfl) (He.glo_ok X G (c.fact 26))
  have F_spared_for : FD K mg "spared_for" s_spared_for := fd_of (c.at_ 38 (d := gd38) rfl) (He.glo_ok X G (c.fact 27))
  have F_greatest_of : FD K mg "greatest_of" s_greatest_of := fd_of (c.at_ 39 (d := gd39) rfl) (He.glo_ok X G (c.fact 28))
  have F_fewest_of : FD K mg "fewest_of" s_fewest_of := fd_of (c.at_ 40 (d := gd40) rfl) (He.glo_ok X G (c.fact 29))
  have F_setting_at : FD K mg "setting_at" s_setting_at := fd_of (c.at_ 41 (d := gd41) rfl) (He.glo_ok X G (c.fact 30))
  have F_counts_for : FD K mg "counts_for" s_counts_for := fd_of (c.at_ 42 (d := gd42) rfl) (He.glo_ok X G (c.fact 31))
  have F_told_fewest : FD K mg "told_fewest" s_told_fewest := fd_of (c.at_ 43 (d := gd43) rfl) (He.glo_ok X G (c.fact 32))
  have F_Setting_read : FA K "read" "Setting.read" s_Setting_read [] (He5.wf K (He.ga K "Setting") "classmethod" "read") := c.at_ 44 (d := gd44) rfl
  have F_least_of : FD K mg "least_of" s_least_of := fd_of (c.at_ 45 (d := gd45) rfl) (He.glo_ok X G (c.fact 33))
  have F_Fewest___call__ : FA K "__call__" "Fewest.__call__" s_Fewest___call__ [] (He.ma K (He.ga K "Fewest") "__call__") := c.at_ 46 (d := gd46) rfl
  have F_Worst_begin_of : FA K "begin_of" "Worst.begin_of" s_Worst_begin_of [] (He.ma K (He.ga K "Worst") "begin_of") := c.at_ 47 (d := gd47) rfl
  have F_need_told_of : FD K mg "need_told_of" s_need_told_of := fd_of (c.at_ 48 (d := gd48) rfl) (He.glo_ok X G (c.fact 34))
  have F_most_of : FD K mg "most_of" s_most_of := fd_of (c.at_ 49 (d := gd49) rfl) (He.glo_ok X G (c.fact 35))
  have F_fewest : FD K mg "fewest" s_fewest := fd_of (c.at_ 50 (d := gd50) rfl) (He.glo_ok X G (c.fact 36))
  have F_Worst_code_at : FA K "code_at" "Worst.code_at" s_Worst_code_at [] (He.ma K (He.ga K "Worst") "code_at") := c.at_ 51 (d := gd51) rfl
  have F_is_last : FD K mg "is_last" s_is_last := fd_of (c.at_ 52 (d := gd52) rfl) (He.glo_ok X G (c.fact 37))
  have F_told_most : FD K mg "told_most" s_told_most := fd_of (c.at_ 53 (d := gd53) rfl) (He.glo_ok X G (c.fact 38))
  have F_Worst_place_of : FA K "place_of" "Worst.place_of" s_Worst_place_of [] (He.ma K (He.ga K "Worst") "place_of") := c.at_ 54 (d := gd54) rfl
  have F_law_setting : FD K mg "_law_setting" s_law_setting := fd_of (c.at_ 55 (d := gd55) rfl) (He.glo_ok X G (c.fact 39))
  have F_Most___call__ : FA K "__call__" "Most.__call__" s_Most___call__ [] (He.ma K (He.ga K "Most") "__call__") := c.at_ 56 (d := gd56) rfl
  have F_Worst___init__ : FA K "__init__" "Worst.__init__" s_Worst___init__ [] (He.ma K (He.ga K "Worst") "__init__") := c.at_ 57 (d := gd57) rfl
  have F_shows_levels : FD K mg "shows_levels" s_shows_levels := fd_of (c.at_ 58 (d := gd58) rfl) (He.glo_ok X G (c.fact 40))
  have F_most : FD K mg "most" s_most := fd_of (c.at_ 59 (d := gd59) rfl) (He.glo_ok X G (c.fact 41))
  have F_worst_for : FD K mg "worst_for" s_worst_for := fd_of (c.at_ 60 (d := gd60) rfl) (He.glo_ok X G (c.fact 42))
  have F_levels : FD K mg "levels" s_levels := fd_of (c.at_ 61 (d := gd61) rfl) (He.glo_ok X G (c.fact 43))
  have F_worst_code : FD K mg "worst_code" s_worst_code := fd_of (c.at_ 62 (d := gd62) rfl) (He.glo_ok X G (c.fact 44))
  have F_worst_place : FD K mg "worst_place" s_worst_place := fd_of (c.at_ 63 (d := gd63) rfl) (He.glo_ok X G (c.fact 45))
  have F_worst_letter : FD K mg "worst_letter" s_worst_letter := fd_of (c.at_ 64 (d := gd64) rfl) (He.glo_ok X G (c.fact 46))
  obtain ⟨fd, F⟩ := c.at_ 65 (d := gd65) rfl
  have e := hfa.symm.trans (He.glo_ok X G (c.fact 47 (f := fun K => (He.Fa.glo "law").ok K) rfl))
  cases e
  have b := FunD.bindsA (ps := ["script"]) F fun _ _ _ _ _ _ us hl => match us, hl with | [_], _ => rfl
  refine ⟨fd, fun s v => b s [v] rfl, fun base _ _ => ?_⟩
  have c_is_int : Dn P w K mg base 1 "is_int" s_is_int ["value"] (spIsInt) := d_is_int T F_is_int
  have c_number_of : Dn P w K mg base 1 "number_of" s_number_of ["word", "least", "most"] (spNumOf) := d_number_of T F_number_of
  have c_Free___init__ : Fr P w K mg base 1 (He.ma K (cLim K .free) "__init__") ["self"] [] (spLimInit K .free) := d_Free___init__ T F_Free___init__
  have c_need_setting : Dn P w K mg base 1 "need_setting" s_need_setting ["value", "part"] (spNeedSet K) := d_need_setting T F_need_setting
  have c_first_level : Dn P w K mg base 1 "first_level" s_first_level ["setting"] (spFirst K) := d_first_level T F_first_level
  have c_filled_but : Dn P w K mg base 1 "filled_but" s_filled_but ["letters", "many", "spared"] (spFillBut) := d_filled_but T F_filled_but
  have c_letters_in : Dn P w K mg base 1 "letters_in" s_letters_in ["counts"] (spLetIn) := d_letters_in T F_letters_in
  have c_added : Dn P w K mg base 1 "added" s_added ["counts", "others"] (spAdded) := d_added T F_added
  have c_Levels___init__ : Fr P w K mg base 1 (He.ma K (He.ga K "Levels") "__init__") ["self", "codes", "letters", "counts"] [] (spLevInit K) := d_Levels___init__ T F_Levels___init__
  have c_place_letter : Dn P w K mg base 1 "place_letter" s_place_letter ["letters", "place"] (spPlace) := d_place_letter T F_place_letter
  have c_digits_of : Dn P w K mg base 1 "digits_of" s_digits_of ["letters", "number", "size"] (spDigits) := d_digits_of T F_digits_of
  have c_spared_level : Dn P w K mg base 1 "spared_level" s_spared_level ["letters", "at", "spared"] (spSparedL) := d_spared_level T F_spared_level
  have c_law_pen : Dn P w K mg base 1 "_law_pen" s_law_pen ["script"] (spPen K) := d_law_pen T F_law_pen
  have c_law_draw : Dn P w K mg base 1 "_law_draw" s_law_draw ["pen", "many"] (spDraw) := d_law_draw T F_law_draw
  have c_law_free_letters : Dn P w K mg base 1 "_law_free_letters" s_law_free_letters ["plain", "many", "deepest"] (spLFreeL) := d_law_free_letters T F_law_free_letters
  have c_law_greatest : Dn P w K mg base 1 "_law_greatest" s_law_greatest ["plain", "codes"] (spLGreat K) := d_law_greatest T F_law_greatest
  have c_set_limit : ∀ h : Bool, Fr P w K mg base 1 (gtA K (cSet K h) "limit") ["self"] [] (spSetLimit K h) := fun h => match h with | true => d_Setting_limit T true (c.at_ 66 (d := gd66) rfl) | false => d_Setting_limit T false (c.at_ 67 (d := gd67) rfl)
  have c_level_of4 : Fr P w K mg base 1 (He.ga K "level_of") ["first", "letters", "at", "deepest"] [] spLevelOf := level_of4 T (c.at_ 71 (d := gd71) rfl)
  have c_is_between : Dn P w K mg base 2 "is_between" s_is_between ["value", "least", "most"] (spBetween) := d_is_between T F_is_between c_is_int
  have c_Most___init__ : Fr P w K mg base 2 (He.ma K (He.ga K "Most") "__init__") ["self", "setting"] [] (spMostInit K) := d_Most___init__ T F_Most___init__ c_need_setting
  have c_Fewest___init__ : Fr P w K mg base 2 (He.ma K (He.ga K "Fewest") "__init__") ["self", "setting"] [] (spFewInit K) := d_Fewest___init__ T F_Fewest___init__ c_need_setting
  have c_are_counts : Dn P w K mg base 2 "are_counts" s_are_counts ["value"] (spAreC K) := d_are_counts T F_are_counts c_is_int
  have c_law_pick : Dn P w K mg base 2 "_law_pick" s_law_pick ["pen", "some"] (spPick K) := d_law_pick T F_law_pick c_law_draw
  have c_law_far : Dn P w K mg base 2 "_law_far" s_law_far ["pen", "figures"] (spLFar) := d_law_far T F_law_far c_law_draw
  have c_law_letters : Dn P w K mg base 2 "_law_letters" s_law_letters ["plain", "many"] (spLLetters K) := d_law_letters T F_law_letters c_law_free_letters
  have c_filled2 : Fr P w K mg base 2 (He.ga K "filled") ["setting", "many", "deepest"] [.non] (spFilled K) := filled2 T (c.at_ 70 (d := gd70) rfl) c_first_level
  have c_filled3 : Fr P w K mg base 2 (He.ga K "filled") ["setting", "many", "deepest"] [] (spFilled K) := filled3 T (c.at_ 70 (d := gd70) rfl) c_first_level
  have c_need_number : Dn P w K mg base 3 "need_number" s_need_number ["value", "least", "most"] (spNeedNum) := d_need_number T F_need_number c_is_between
  have c_need_letters : Dn P w K mg base 3 "need_letters" s_need_letters ["value"] (spNeedL) := d_need_letters T F_need_letters c_is_between
  have c_Short___init__ : Fr P w K mg base 3 (He.ma K (cLim K .short) "__init__") ["self", "longest"] [] (spLimInit K .short) := d_Short___init__ T F_Short___init__ c_is_between
  have c_Cleared___init__ : Fr P w K mg base 3 (He.ma K (cLim K .cleared) "__init__") ["self", "many"] [] (spLimInit K .cleared) := d_Cleared___init__ T F_Cleared___init__ c_is_between
  have c_Standing___init__ : Fr P w K mg base 3 (He.ma K (cLim K .standing) "__init__") ["self", "many"] [] (spLimInit K .standing) := d_Standing___init__ T F_Standing___init__ c_is_between
  have c_spared_counts : Dn P w K mg base 3 "spared_counts" s_spared_counts ["setting", "many", "spared"] (spSparedC K) := d_spared_counts T F_spared_counts c_added c_filled_but c_set_limit
  have c_is_loose : Dn P w K mg base 3 "is_loose" s_is_loose ["setting"] (spLoose K) := d_is_loose T F_is_loose c_first_level c_set_limit
  have c_longest_code : Dn P w K mg base 3 "longest_code" s_longest_code ["setting"] (spLongC K) := d_longest_code T F_longest_code c_set_limit
  have c_Worst_hidden_word : Fr P w K mg base 3 (He.ma K (He.ga K "Worst") "hidden_word") ["self", "at"] [] (spWstHid K) := d_Worst_hidden_word T F_Worst_hidden_word c_digits_of c_place_letter c_set_limit c_level_of4
  have c_Worst_told_word : Fr P w K mg base 3 (He.ma K (He.ga K "Worst") "told_word") ["self", "at"] [] (spWstTold K) := d_Worst_told_word T F_Worst_told_word c_digits_of c_first_level c_set_limit c_level_of4
  have c_Worst_spared_word : Fr P w K mg base 3 (He.ma K (He.ga K "Worst") "spared_word") ["self", "at"] [] (spWstSpar K) := d_Worst_spared_word T F_Worst_spared_word c_spared_level c_digits_of c_set_limit
  have c_law_plain : Dn P w K mg base 3 "_law_plain" s_law_plain ["pen"] (spLPlain K) := d_law_plain T F_law_plain c_law_pick c_law_draw
  have c_need_size : Dn P w K mg base 4 "need_size" s_need_size ["value"] (spNeedSize) := d_need_size T F_need_size c_need_number
  have c_Worst_whole_word : Fr P w K mg base 4 (He.ma K (He.ga K "Worst") "whole_word") ["self", "at"] [] (spWstWord K) := d_Worst_whole_word T F_Worst_whole_word c_Worst_hidden_word c_Worst_told_word c_Worst_spared_word
  have c_limit_at : Dn P w K mg base 5 "limit_at" s_limit_at ["words", "at"] (spLimitAt K) := d_limit_at T F_limit_at c_number_of c_Free___init__ c_Short___init__ c_Cleared___init__ c_Standing___init__
  have c_spared_for : Dn P w K mg base 5 "spared_for" s_spared_for ["setting", "many"] (spSparedF K) := d_spared_for T F_spared_for c_letters_in c_spared_counts c_filled2 c_set_limit
  have c_greatest_of : Dn P w K mg base 5 "greatest_of" s_greatest_of ["setting", "codes"] (spGreat K) := d_greatest_of T F_greatest_of c_longest_code c_set_limit
  have c_set_init2 : ∀ h : Bool, Fr P w K mg base 5 (He.ma K (cSet K h) "__init__") ["self", "letters", "limit"] [] (spSetInit K h) := fun h => match h with | true => init2 T true (c.at_ 68 (d := gd68) rfl) c_need_letters c_Free___init__ | false => init2 T false (c.at_ 69 (d := gd69) rfl) c_need_letters c_Free___init__
  have c_fewest_of : Dn P w K mg base 6 "fewest_of" s_fewest_of ["setting", "size"] (spFewOf K) := d_fewest_of T F_fewest_of c_greatest_of
  have c_setting_at : Dn P w K mg base 7 "setting_at" s_setting_at ["words", "at"] (spSettingAt K) := d_setting_at T F_setting_at c_number_of c_limit_at c_set_init2
  have c_counts_for : Dn P w K mg base 7 "counts_for" s_counts_for ["setting", "many"] (spCounts K) := d_counts_for T F_counts_for c_spared_counts c_added c_spared_for c_set_limit c_filled2 c_filled3
  have c_told_fewest : Dn P w K mg base 7 "told_fewest" s_told_fewest ["setting", "n"] (spToldF K) := d_told_fewest T F_told_fewest c_need_size c_fewest_of
  have c_Setting_read : Fr P w K mg base 8 (He5.wf K (He.ga K "Setting") "classmethod" "read") ["cls", "text"] [] (spSetRead K) := d_Setting_read T F_Setting_read c_setting_at
  have c_least_of : Dn P w K mg base 8 "least_of" s_least_of ["setting", "codes"] (spLeast K) := d_least_of T F_least_of c_letters_in c_counts_for
  have c_Fewest___call__ : Fr P w K mg base 8 (He.ma K (He.ga K "Fewest") "__call__") ["self", "n"] [] (spFewCall K) := d_Fewest___call__ T F_Fewest___call__ c_told_fewest
  have c_Worst_begin_of : Fr P w K mg base 9 (He.ma K (He.ga K "Worst") "begin_of") ["self", "at"] [] (spWstBegin K) := d_Worst_begin_of T F_Worst_begin_of c_letters_in c_filled_but c_counts_for c_set_limit
  have c_need_told_of : Dn P w K mg base 10 "need_told_of" s_need_told_of ["setting", "size"] (spNeedToldOf K) := d_need_told_of T F_need_told_of c_is_loose c_least_of c_set_limit
  have c_most_of : Dn P w K mg base 10 "most_of" s_most_of ["setting", "size"] (spMostOf K) := d_most_of T F_most_of c_is_loose c_least_of c_set_limit
  have c_fewest : Dn P w K mg base 10 "fewest" s_fewest ["setting", "n"] (spFewest K) := d_fewest T F_fewest c_Fewest___init__ c_Fewest___call__
  have c_Worst_code_at : Fr P w K mg base 10 (He.ma K (He.ga K "Worst") "code_at") ["self", "at"] [] (spWstCode K) := d_Worst_code_at T F_Worst_code_at c_Worst_whole_word c_Worst_begin_of
  have c_is_last : Dn P w K mg base 10 "is_last" s_is_last ["setting", "codes", "n"] (spIsLast K) := d_is_last T F_is_last c_is_loose c_least_of c_set_limit
  have c_told_most : Dn P w K mg base 11 "told_most" s_told_most ["setting", "n"] (spToldM K) := d_told_most T F_told_most c_need_size c_need_told_of c_most_of
  have c_Worst_place_of : Fr P w K mg base 11 (He.ma K (He.ga K "Worst") "place_of") ["self", "at"] [] (spWstPlace K) := d_Worst_place_of T F_Worst_place_of c_Worst_begin_of
  have c_law_setting : Dn P w K mg base 11 "_law_setting" s_law_setting ["plain"] (spLSetting K) := d_law_setting T F_law_setting c_Setting_read
  have c_Most___call__ : Fr P w K mg base 12 (He.ma K (He.ga K "Most") "__call__") ["self", "n"] [] (spMostCall K) := d_Most___call__ T F_Most___call__ c_told_most
  have c_Worst___init__ : Fr P w K mg base 12 (He.ma K (He.ga K "Worst") "__init__") ["self", "setting", "n"] [] (spWstInit K) := d_Worst___init__ T F_Worst___init__ c_most_of c_spared_for c_set_limit
  have c_shows_levels : Dn P w K mg base 12 "shows_levels" s_shows_levels ["setting", "n", "value"] (spShows K) := d_shows_levels T F_shows_levels c_need_setting c_need_size c_need_told_of c_counts_for c_are_counts c_is_int c_least_of c_is_last c_letters_in
  have c_most : Dn P w K mg base 14 "most" s_most ["setting", "n"] (spMost K) := d_most T F_most c_Most___init__ c_Most___call__
  have c_worst_for : Dn P w K mg base 14 "worst_for" s_worst_for ["setting", "n", "at"] (spWorstFor K) := d_worst_for T F_worst_for c_need_setting c_need_size c_need_told_of c_Worst___init__
  have c_levels : Dn P w K mg base 16 "levels" s_levels ["setting", "n"] (spLevels K) := d_levels T F_levels c_most c_counts_for c_least_of c_Levels___init__
  have c_worst_code : Dn P w K mg base 16 "worst_code" s_worst_code ["setting", "n", "i"] (spWorstCode K) := d_worst_code T F_worst_code c_worst_for c_Worst_code_at
  have c_worst_place : Dn P w K mg base 16 "worst_place" s_worst_place ["setting", "n", "k"] (spWorstPlace K) := d_worst_place T F_worst_place c_worst_for c_Worst_place_of
  have c_worst_letter : Dn P w K mg base 16 "worst_letter" s_worst_letter ["setting", "n", "k"] (spWorstLetter K) := d_worst_letter T F_worst_letter c_worst_for c_Worst_place_of c_Worst_whole_word
  exact law_ok T F c_law_pen c_law_plain c_levels c_law_setting c_most c_fewest c_worst_code c_law_draw c_law_far c_law_greatest c_shows_levels c_law_letters c_worst_place c_worst_letter
end LB
open PySem PySem.W PySem.Calls PyProof.Rows
set_option maxHeartbeats 0 in
theorem PySem.Challenge.cw_learntbooks_k56_whole_great_lengths_holds : PySem.Challenge.rw_learntbooks_k56_whole_great_lengths.Holds := by
  w_on; o_law
  refine HandSHeadRun.head_any (r := OpenLaw.row PySem.Challenge.rw_learntbooks_k56_whole_great_lengths) (q := view (OpenLaw.row PySem.Challenge.rw_learntbooks_k56_whole_great_lengths).prog [98]) (H := LB.hk) (ob := LB.ob) (M := 40000) (loose := LB.loose) (d := HandSHeadRun.topDef (OpenLaw.row PySem.Challenge.rw_learntbooks_k56_whole_great_lengths).prog 98) (kwd := []) LB.ob_eq
    (by kernel_rfl) (fun s => by kernel_rfl) LB.run (by kernel_rfl) (by kernel_rfl) (by kernel_rfl) (by rfl) (by first | assumption | decide +kernel) (by decide +kernel) ⟨rfl, rfl, rfl, rfl, rfl, by decide +kernel⟩ ?hw ?hc
  case hw => w_witness2
  case hc =>
    refine L2.walk_ofE (l := PySem.Challenge.rw_learntbooks_k56_whole_great_lengths) (n := 63) (k := 19) (x := "script") (CX := L2.CX0) rfl (by decide) (by kernel_rfl) ⟨rfl, by decide, by decide⟩ ?F (fun _ _ _ _ z => z)
    intro w mg fa h Y G hmg0
    obtain ⟨K, KX, c⟩ := Y
    have hmg : mg ("law" : PySem.Str) = some (.ref fa) := by
      have e : (HandSHeadRun.topDef (OpenLaw.row PySem.Challenge.rw_learntbooks_k56_whole_great_lengths).prog 98).name = ("law" : PySem.Str) := by kernel_rfl
      rw [← e]
      exact hmg0
    obtain ⟨fd, hb, hF⟩ := LB.facts (P := (PySem.Challenge.rw_learntbooks_k56_whole_great_lengths).prog) (w := w) KX G hmg c
    exact ⟨K, fd, LB.spLaw K, KX, hb, fun H a ns hl _ hS => LB.law_start hS hl, hF⟩
#print axioms PySem.Challenge.cw_learntbooks_k56_whole_great_lengths_holds

