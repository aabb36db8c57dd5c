import PyProof.Rows.All
import Wide.All
import OpenK.AllK
import Wide.FinOn
import HandS.ForMost
import HandS.Exc
import HandS.ExcOwn
import HandS.Wide
import HandS.WideMore
import HandS.IsInst
import HandS.TupLe
import HandS.Defaults
import HandS.HeadEnd
import HandS.HeadHook1
import HandS.HeadHook2
import HandS.HeadHook3
import HandS.Head0
import HandS.Head1
import HandS.Head2
import HandS.More
import HandS.Codes
import HandS.Flow
import HandS.TupAny
import HandS.Property
import HandS.DictComp
import HandS.Conv
import HandS.ClsMeth
import HandS.FStr
import KE.KCallOwn
import HandS.GenList
import HandS.GenYield
import HandS.HeadHook4
import HandS.SortInts
import HandS.SetFor
import KE.GoesEnum
import HandS.HeadNt
import OpenK.KMeth
import KE.KOpsOwn
import HandS.Star
import HandS.Iter
import HandS.Style
import HandS.Zip
import HandS.MakeKw
import PySem.Challenge.RW_learntbooks_k45_known_staircases
set_option Elab.async false
set_option linter.all false
set_option maxRecDepth 100000
set_option maxHeartbeats 4000000

namespace LB
open PySem PySem.Spec PyProof.Rows L2

/-! ## stepping lemmas: a reading's head is unfolded, what follows stays closed -/
section
variable {K : PySem.W.Frag} {D : Ends} {σ : L2.St} {H : Hp} {Q : VK} {ta tb tc te : TE} {tA tB' : TT} {t u : TS} {i : Nat} {v x y : V} {r : R2}

theorem w_seq (q : t { D with nx := u D } σ H) : tSeq t u D σ H := q
theorem w_seqA {g : TG} (q : tAsg te g { D with nx := u D } σ H) : tSeq (tAsg te g) u D σ H := q
theorem w_seqE (q : tDrop te { D with nx := u D } σ H) : tSeq (tDrop te) u D σ H := q
theorem w_seqG {ti : TIp} (q : tAug i te ti { D with nx := u D } σ H) : tSeq (tAug i te ti) u D σ H := q
theorem w_seqP {j : Nat} {ts : TA} (q : tPar i j ts { D with nx := u D } σ H) : tSeq (tPar i j ts) u D σ H := q
/-- the ways of t meet in Mid -/
theorem w_join (Mid : L2.St → Hp → Prop) (h : ∀ X : L2.St → Hp → Prop, (∀ σ' H', Mid σ' H' → X σ' H') → t { D with nx := X } σ H) (hX : ∀ σ' H', Mid σ' H' → u D σ' H') : tSeq t u D σ H := h (u D) hX
theorem w_two {P : V → V → Prop} (q : P x y) : ∃ v w, [x, y] = [v, w] ∧ P v w := ⟨x, y, rfl, q⟩
/-- the ways of an expression meet in Mid -/
theorem w_val (Mid : V → Hp → Prop) (h : ∀ X : VK, (∀ v H', Mid v H' → X v H') → te σ H X) (hQ : ∀ v H', Mid v H' → Q v H') : te σ H Q := h Q hQ
theorem w_par {j : Nat} {ts : TA} (q : ts σ H fun vs H1 => ∃ v w, vs = [v, w] ∧ gName i v σ H1 fun σ1 H2 => gName j w σ1 H2 D.nx) : tPar i j ts D σ H := q
theorem w_nx {f bk ct : L2.St → Hp → Prop} {rt : VK} (q : f σ H) : (Ends.mk f rt bk ct).nx σ H := q
theorem w_bk {f bk ct : L2.St → Hp → Prop} {rt : VK} (q : bk σ H) : (Ends.mk f rt bk ct).bk σ H := q
theorem w_ct {f bk ct : L2.St → Hp → Prop} {rt : VK} (q : ct σ H) : (Ends.mk f rt bk ct).ct σ H := q
theorem w_rt {f bk ct : L2.St → Hp → Prop} {rt : VK} (q : rt v H) : (Ends.mk f rt bk ct).rt v H := q
theorem w_next (q : D.nx σ H) : tNext D σ H := q
theorem w_brk (q : D.bk σ H) : tBreak D σ H := q
theorem w_cont (q : D.ct σ H) : tCont D σ H := q
theorem w_drop (q : te σ H fun _ H1 => D.nx σ H1) : tDrop te D σ H := q
theorem w_ret (q : te σ H D.rt) : tRet te D σ H := q
theorem w_retN (q : D.rt .non H) : tRetN D σ H := q
theorem w_asg {g : TG} (q : te σ H fun x H1 => g x σ H1 D.nx) : tAsg te g D σ H := q
theorem w_ifS (q : tA σ H fun b H1 => if b = true then t D σ H1 else u D σ H1) : tIfS tA t u D σ H := q
theorem w_aug {ti : TIp} (h : σ[i]? = some (some x)) (q : te σ H fun y H1 => ti x y H1 fun z H2 => D.nx (σ.set i (some z)) H2) : tAug i te ti D σ H := ⟨x, h, q⟩
theorem w_var (h : σ[i]? = some (some v)) (q : Q v H) : tVar i σ H Q := ⟨v, h, q⟩
theorem w_c (q : Q v H) : tC v σ H Q := q
theorem w_op (q : ta σ H fun x H1 => tb σ H1 fun y H2 => r x y H2 Q) : tOp r ta tb σ H Q := q
theorem w_un {r : V → Hp → VK → Prop} (q : ta σ H fun x H1 => r x H1 Q) : tUn r ta σ H Q := q
theorem w_if (q : tA σ H fun c H1 => if c = true then ta σ H1 Q else tb σ H1 Q) : tIf tA ta tb σ H Q := q
theorem w_andV (q : ta σ H fun x H1 => ∃ c, x = .bl c ∧ if c = true then tb σ H1 Q else Q (.bl false) H1) : tAndV ta tb σ H Q := q
theorem w_orV (q : ta σ H fun x H1 => ∃ c, x = .bl c ∧ if c = true then Q (.bl true) H1 else tb σ H1 Q) : tOrV ta tb σ H Q := q
theorem w_notV (q : ta σ H fun x H1 => ∃ c, x = .bl c ∧ Q (.bl (!c)) H1) : tNotV ta σ H Q := q
theorem w_bl {c : Bool} {P : Bool → Prop} (q : P c) : ∃ b, V.bl c = .bl b ∧ P b := ⟨c, rfl, q⟩
theorem w_test {R : Bool → Hp → Prop} (q : te σ H fun x H' => ∃ k, x = .bl k ∧ R k H') : tTest te σ H R := q
theorem w_B {R : Bool → Hp → Prop} (q : te σ H fun x H1 => ∃ c, x = .bl c ∧ R c H1) : tB te σ H R := q
theorem w_and {R : Bool → Hp → Prop} (q : tA σ H fun c H1 => if c = true then tB' σ H1 R else R false H1) : tAnd tA tB' σ H R := q
theorem w_or {R : Bool → Hp → Prop} (q : tA σ H fun c H1 => if c = true then R true H1 else tB' σ H1 R) : tOr tA tB' σ H R := q
theorem w_not {R : Bool → Hp → Prop} (q : tA σ H fun c H1 => R (!c) H1) : tNot tA σ H R := q
theorem w_chain {r' : R2} (q : ta σ H fun x H1 => tb σ H1 fun y H2 => r x y H2 fun z H3 => ∃ k, z = .bl k ∧ (if k = true then tc σ H3 fun w' H4 => r' y w' H4 Q else Q (.bl false) H3)) : tChain r r' ta tb tc σ H Q := q
theorem w_nil {R : List V → Hp → Prop} (q : R [] H) : tNil σ H R := q
theorem w_cons {ts : TA} {R : List V → Hp → Prop} (q : ta σ H fun x H1 => ts σ H1 fun xs H2 => R (x :: xs) H2) : tCons ta ts σ H R := q
theorem w_lst {ts : TA} (q : ts σ H fun xs H1 => xs.length ≤ sizeLine ∧ ∀ p, H1 p = none → Q (.ref p) (upd H1 p (.lst xs))) : tLst ts σ H Q := q
theorem w_tup {ts : TA} (q : ts σ H fun xs H1 => xs.length ≤ sizeLine ∧ ∀ p, H1 p = none → Q (.ref p) (upd H1 p (.tup xs))) : tTup ts σ H Q := q
theorem w_call {sp : Sp} {dvs : List V} {E : XK} {ts : TA} (q : ts σ H fun vs H1 => sp (vs ++ dvs) H1 Q E) : tCall sp dvs E ts σ H Q := q
theorem w_callN {n m : Nat} {sp : Sp} {gV : List V → List V → List V} {E : XK} {ts tk : TA} (q : ts σ H fun vs H1 => tk σ H1 fun zs H2 => vs.length = n ∧ zs.length = m ∧ sp (gV vs zs) H2 Q E) : tCallN n m sp gV E ts tk σ H Q := q
theorem w_cb {r : List V → Hp → VK → Prop} {ts : TA} (q : ts σ H fun vs H1 => r vs H1 Q) : tCB r ts σ H Q := q
theorem w_I0 {g : Int → Int → V} {a b : Int} (q : Q (g a b) H) : rI0 g (.int a) (.int b) H Q := ⟨a, b, rfl, rfl, q⟩
theorem w_I {C : Int → Int → Prop} {g : Int → Int → V} {a b : Int} (c : C a b) (q : Q (g a b) H) : rI C g (.int a) (.int b) H Q := ⟨a, b, rfl, rfl, c, q⟩
theorem w_U {g : Int → V} {a : Int} (q : Q (g a) H) : rU g (.int a) H Q := ⟨a, rfl, q⟩
theorem w_eq (s : scal x y = true) (q : Q (.bl (decide (x = y))) H) : rEq x y H Q := ⟨s, q⟩
theorem w_ne (s : scal x y = true) (q : Q (.bl (!decide (x = y))) H) : rNe x y H Q := ⟨s, q⟩
theorem w_sl {r : V → Option Int → Option Int → Hp → VK → Prop} {tl th : TO} (q : te σ H fun x H1 => tl σ H1 fun l H2 => th σ H2 fun u H3 => r x l u H3 Q) : tSl r te tl th σ H Q := q
theorem w_noPart {R : Option Int → Hp → Prop} (q : R none H) : tNoPart σ H R := q
theorem w_part {R : Option Int → Hp → Prop} (q : te σ H fun x H1 => ∃ i, x = .int i ∧ R (some i) H1) : tPart te σ H R := q
theorem w_int {a : Int} {P : Int → Prop} (q : P a) : ∃ i, V.int a = .int i ∧ P i := ⟨a, rfl, q⟩
variable {a0 a1 a2 a3 a4 a5 a6 a7 a8 a9 b0 b1 b2 b3 : Option V} {rs : L2.St} {R : L2.St → Hp → Prop}
theorem w_v0 (q : Q v H) : tVar 0 (some v :: rs) H Q := ⟨v, rfl, q⟩
theorem w_v1 (q : Q v H) : tVar 1 (a0 :: some v :: rs) H Q := ⟨v, rfl, q⟩
theorem w_v2 (q : Q v H) : tVar 2 (a0 :: a1 :: some v :: rs) H Q := ⟨v, rfl, q⟩
theorem w_v3 (q : Q v H) : tVar 3 (a0 :: a1 :: a2 :: some v :: rs) H Q := ⟨v, rfl, q⟩
theorem w_v4 (q : Q v H) : tVar 4 (a0 :: a1 :: a2 :: a3 :: some v :: rs) H Q := ⟨v, rfl, q⟩
theorem w_v5 (q : Q v H) : tVar 5 (a0 :: a1 :: a2 :: a3 :: a4 :: some v :: rs) H Q := ⟨v, rfl, q⟩
theorem w_v6 (q : Q v H) : tVar 6 (a0 :: a1 :: a2 :: a3 :: a4 :: a5 :: some v :: rs) H Q := ⟨v, rfl, q⟩
theorem w_v7 (q : Q v H) : tVar 7 (a0 :: a1 :: a2 :: a3 :: a4 :: a5 :: a6 :: some v :: rs) H Q := ⟨v, rfl, q⟩
theorem w_v8 (q : Q v H) : tVar 8 (a0 :: a1 :: a2 :: a3 :: a4 :: a5 :: a6 :: a7 :: some v :: rs) H Q := ⟨v, rfl, q⟩
theorem w_v9 (q : Q v H) : tVar 9 (a0 :: a1 :: a2 :: a3 :: a4 :: a5 :: a6 :: a7 :: a8 :: some v :: rs) H Q := ⟨v, rfl, q⟩
theorem w_v10 (q : Q v H) : tVar 10 (a0 :: a1 :: a2 :: a3 :: a4 :: a5 :: a6 :: a7 :: a8 :: a9 :: some v :: rs) H Q := ⟨v, rfl, q⟩
theorem w_v11 (q : Q v H) : tVar 11 (a0 :: a1 :: a2 :: a3 :: a4 :: a5 :: a6 :: a7 :: a8 :: a9 :: b0 :: some v :: rs) H Q := ⟨v, rfl, q⟩
theorem w_v12 (q : Q v H) : tVar 12 (a0 :: a1 :: a2 :: a3 :: a4 :: a5 :: a6 :: a7 :: a8 :: a9 :: b0 :: b1 :: some v :: rs) H Q := ⟨v, rfl, q⟩
theorem w_g0 (q : R (some v :: rs) H) : gName 0 v (a0 :: rs) H R := q
theorem w_g1 (q : R (a0 :: some v :: rs) H) : gName 1 v (a0 :: a1 :: rs) H R := q
theorem w_g2 (q : R (a0 :: a1 :: some v :: rs) H) : gName 2 v (a0 :: a1 :: a2 :: rs) H R := q
theorem w_g3 (q : R (a0 :: a1 :: a2 :: some v :: rs) H) : gName 3 v (a0 :: a1 :: a2 :: a3 :: rs) H R := q
theorem w_g4 (q : R (a0 :: a1 :: a2 :: a3 :: some v :: rs) H) : gName 4 v (a0 :: a1 :: a2 :: a3 :: a4 :: rs) H R := q
theorem w_g5 (q : R (a0 :: a1 :: a2 :: a3 :: a4 :: some v :: rs) H) : gName 5 v (a0 :: a1 :: a2 :: a3 :: a4 :: a5 :: rs) H R := q
theorem w_g6 (q : R (a0 :: a1 :: a2 :: a3 :: a4 :: a5 :: some v :: rs) H) : gName 6 v (a0 :: a1 :: a2 :: a3 :: a4 :: a5 :: a6 :: rs) H R := q
theorem w_g7 (q : R (a0 :: a1 :: a2 :: a3 :: a4 :: a5 :: a6 :: some v :: rs) H) : gName 7 v (a0 :: a1 :: a2 :: a3 :: a4 :: a5 :: a6 :: a7 :: rs) H R := q
theorem w_g8 (q : R (a0 :: a1 :: a2 :: a3 :: a4 :: a5 :: a6 :: a7 :: some v :: rs) H) : gName 8 v (a0 :: a1 :: a2 :: a3 :: a4 :: a5 :: a6 :: a7 :: a8 :: rs) H R := q
theorem w_g9 (q : R (a0 :: a1 :: a2 :: a3 :: a4 :: a5 :: a6 :: a7 :: a8 :: some v :: rs) H) : gName 9 v (a0 :: a1 :: a2 :: a3 :: a4 :: a5 :: a6 :: a7 :: a8 :: a9 :: rs) H R := q
theorem w_g10 (q : R (a0 :: a1 :: a2 :: a3 :: a4 :: a5 :: a6 :: a7 :: a8 :: a9 :: some v :: rs) H) : gName 10 v (a0 :: a1 :: a2 :: a3 :: a4 :: a5 :: a6 :: a7 :: a8 :: a9 :: b0 :: rs) H R := q
theorem w_g11 (q : R (a0 :: a1 :: a2 :: a3 :: a4 :: a5 :: a6 :: a7 :: a8 :: a9 :: b0 :: some v :: rs) H) : gName 11 v (a0 :: a1 :: a2 :: a3 :: a4 :: a5 :: a6 :: a7 :: a8 :: a9 :: b0 :: b1 :: rs) H R := q
theorem w_g12 (q : R (a0 :: a1 :: a2 :: a3 :: a4 :: a5 :: a6 :: a7 :: a8 :: a9 :: b0 :: b1 :: some v :: rs) H) : gName 12 v (a0 :: a1 :: a2 :: a3 :: a4 :: a5 :: a6 :: a7 :: a8 :: a9 :: b0 :: b1 :: b2 :: rs) H R := q
end

/-! ## calls: one record a def -/
section
variable (P : Program) (w : World) (K : PySem.W.Frag) (mg : Str → Option Value) (base : Heap)
/-- a def of the text, its promise, how it is bound by place -/
structure Dn (k : Nat) (x : Str) (st : Stmt) (ps : List Str) (sp : Sp) : Prop where
  ex : ∃ (f : Addr) (fd : FuncData), FunD K x x (defArgs st) (defBody st) (defScope st) [] [] f fd ∧ FnOk P w K mg base CX0 k f fd ps sp ∧ mg x = some (.ref f) ∧ Binds K fd ps []
end
/-- the items with these indexes -/
def sel {α : Type} (ix : List Nat) (xs : List α) : List α := ix.filterMap fun i => xs[i]?
theorem sel_rel {xs : List V} {us : List Value} (r : Vals xs us) : ∀ ix : List Nat, Vals (sel ix xs) (sel ix us)
  | [] => .nil
  | i :: ix => by
    have t := sel_rel r ix
    unfold sel at t ⊢
    rw [List.filterMap_cons, List.filterMap_cons]
    cases h : xs[i]? with
    | none =>
      rw [r.none_of h]
      exact t
    | some x =>
      obtain ⟨u, h1, h2⟩ := r.get h
      rw [h1]
      exact .cons h2 t
section
variable {P : Program} {w : World} {K : PySem.W.Frag} {mg : Str → Option Value} {base : Heap} {x : Str} {st : Stmt} {ps ks : List Str} {sp : Sp} {k n : Nat} {f : Addr} {fd : FuncData} {dvs : List V} {kws : List (Str × V)}
/-- keywords: ix puts the written values in the parameters' order -/
structure KwOk (st : Stmt) (x : Str) (ps : List Str) (n : Nat) (ks : List Str) (ix : List Nat) : Prop where
  h : ∀ (kV doc pm : Value) (an : Option Addr) (cdv ct : Value) (us ws : List Value), us.length = n → ws.length = ks.length →
    bindArgs (PySem.W.fnOf x x (defArgs st) (defBody st) (defScope st) .none kV doc pm an cdv ct) ⟨us, ks.zip ws⟩ = pure (ps.zip (sel ix (us ++ ws)))
theorem kbn_of {ix : List Nat} (F : FunD K x x (defArgs st) (defBody st) (defScope st) [] [] f fd) (o : KwOk st x ps n ks ix) : KBn K fd ps n ks (fun us ws => sel ix (us ++ ws)) (fun vs zs => sel ix (vs ++ zs)) := by
  obtain ⟨oc, od, dV, kV, doc, pm, an, cdv, ct, osl, rfl, lk, hcd, hD, hK⟩ := F.ex
  rcases hD with ⟨_, rfl⟩ | ⟨e, _⟩
  · exact ⟨fun s us ws _ l1 l2 => .of_eq (o.h kV doc pm an cdv ct us ws l1 l2), fun r1 r2 => sel_rel (r1.append r2) ix⟩
  · exact absurd rfl e
end
section
variable {X : Cx} {k j n : Nat} {x : Str} {st : Stmt} {ps ks : List Str} {sp : Sp} {p pos : Pos} {e : Expr} {es : List Expr} {kws : List Keyword} {t tk : TA} {ix : List Nat}
theorem pe_d (c : Dn X.prog X.w X.K X.mg X.base k x st ps sp) (hr : Room j X.A) (hk : k ≤ j) (hg : Gl X x) (ha : PA X (e :: es) t)
    (hdb : (x == ("__debug__" : Str)) = false := by decide) (he : starEach (e :: es) X.env = (false, eval e X.env) :: starEach es X.env := by rfl) (hpl : (backTo pos (starEach es X.env)).any (·.1) = false := by rfl) :
    PE X (.Call (.Name x p) (e :: es) [] pos) (tCall sp [] E0 t) := by
  obtain ⟨f, fd, F, ok, hm, b⟩ := c.ex
  exact pe_call ok (hr.mono hk) hg hm F.kp b .nil pass0 ha hdb he hpl
theorem pe_d0 (c : Dn X.prog X.w X.K X.mg X.base k x st ps sp) (hr : Room j X.A) (hk : k ≤ j) (hg : Gl X x)
    (hdb : (x == ("__debug__" : Str)) = false := by decide) : PE X (.Call (.Name x p) [] [] pos) (tCall sp [] E0 tNil) := by
  obtain ⟨f, fd, F, ok, hm, b⟩ := c.ex
  exact pe_call0 ok (hr.mono hk) hg hm F.kp b .nil pass0 hdb
theorem pe_dN (c : Dn X.prog X.w X.K X.mg X.base k x st ps sp) (hr : Room j X.A) (hk : k ≤ j) (hg : Gl X x) (o : KwOk st x ps n ks ix) (ha : PA X (e :: es) t) (hkw : PK X kws tk)
    (hall : (backToKw pos (keywordEach kws X.env)).all (·.1.isSome) = true := by rfl) (hks : (backToKw pos (keywordEach kws X.env)).filterMap (·.1) = ks := by rfl)
    (hdb : (x == ("__debug__" : Str)) = false := by decide) (he : starEach (e :: es) X.env = (false, eval e X.env) :: starEach es X.env := by rfl)
    (hpl : ((backTo pos (starEach (e :: es) X.env)).any (·.1) || (backToKw pos (keywordEach kws X.env)).any (·.1.isNone)) = false := by rfl) :
    PE X (.Call (.Name x p) (e :: es) kws pos) (tCallN n ks.length sp (fun vs zs => sel ix (vs ++ zs)) E0 t tk) := by
  obtain ⟨f, fd, F, ok, hm, b⟩ := c.ex
  exact pe_callN ok (hr.mono hk) hg hm F.kp (kbn_of F o) pass0 ha hkw hall hks hdb he hpl
/-- f(k = v, ..): keywords alone -/
theorem pe_dN0 (c : Dn X.prog X.w X.K X.mg X.base k x st ps sp) (hr : Room j X.A) (hk : k ≤ j) (hg : Gl X x) (o : KwOk st x ps 0 ks ix) (hkw : PK X kws tk)
    (hall : (backToKw pos (keywordEach kws X.env)).all (·.1.isSome) = true := by rfl) (hks : (backToKw pos (keywordEach kws X.env)).filterMap (·.1) = ks := by rfl)
    (hdb : (x == ("__debug__" : Str)) = false := by decide)
    (hpl : ((backTo pos (starEach [] X.env)).any (·.1) || (backToKw pos (keywordEach kws X.env)).any (·.1.isNone)) = false := by rfl) :
    PE X (.Call (.Name x p) [] kws pos) (tCallN 0 ks.length sp (fun vs zs => sel ix (vs ++ zs)) E0 tNil tk) := by
  obtain ⟨f, fd, F, ok, hm, b⟩ := c.ex
  refine ⟨fun pins s σ H Q I h => ?_⟩
  refine wpAny_Call_Name_kw (ld_glob I hg hm ?_ hdb)
  refine PySem.W.callWith_KW0 (h₀ := X.base) I.ok.mod.kin F.kp hall ?_ hpl
  obtain h : tk σ H fun zs H2 => ([] : List V).length = 0 ∧ zs.length = ks.length ∧ sp (sel ix ([] ++ zs)) H2 Q E0 := h
  refine thn (hkw.run pos pins s σ H _ I h) fun ws s2 ⟨zs, H2, I2, rz, l1, l2, q2⟩ => ⟨I2.kIn, ?_⟩
  rw [hks]
  exact run_fnN ok (hr.mono hk) (kbn_of F o) pass0 I2 .nil rz l1 l2 q2
end

section
variable {P : Program} {w : World} {K : PySem.W.Frag} {mg : Str → Option Value} {base : Heap} {x : Str} {st : Stmt} {ps N : List Str} {sp : Sp} {k : Nat}
/-- a def of the text as it stands behind the top -/
def FD (K : PySem.W.Frag) (mg : Str → Option Value) (x : Str) (st : Stmt) : Prop := ∃ (f : Addr) (fd : FuncData), FunD K x x (defArgs st) (defBody st) (defScope st) [] [] f fd ∧ mg x = some (.ref f)
theorem fd_of {f : Addr} (h : ∃ fd, FunD K x x (defArgs st) (defBody st) (defScope st) [] [] f fd) (g : mg x = some (.ref f)) : FD K mg x st :=
  let ⟨fd, F⟩ := h
  ⟨f, fd, F, g⟩
theorem glob_of {v : V} {α : Type} {q : α → Value} (h : ∃ t, mg x = some (q t)) (r : ∀ t, RelV v (q t)) : ∃ u, mg x = some u ∧ RelV v u :=
  let ⟨t, e⟩ := h
  ⟨_, e, r t⟩
theorem glob_i {i : Int} (h : ∃ t, mg x = some (.int i t)) : ∃ u, mg x = some u ∧ RelV (.int i) u := glob_of h fun t => ⟨t, rfl⟩
theorem glob_s {z : Str} (h : ∃ t, mg x = some (.str z t)) : ∃ u, mg x = some u ∧ RelV (.str z) u := glob_of h fun t => ⟨t, rfl⟩
/-- THE RULE for a def -/
theorem dn_of (F : FD K mg x st) (hbind : ∀ (kV doc pm : Value) (an : Option Addr) (cdv ct : Value) (us : List Value), us.length = ps.length → bindArgs (PySem.W.fnOf x x (defArgs st) (defBody st) (defScope st) .none kV doc pm an cdv ct) ⟨us, []⟩ = pure (ps.zip us))
    (S : FnScope N ps (defScope st)) (len : ∀ vs H Q E, sp vs H Q E → vs.length = ps.length)
    (hbody : ∀ (f : Addr) (cdv : Value) (A : Around) (outer : List Env) (s : Shared) (H : Hp) (vs : List V) (Q : VK) (E : XK), Room k (A.deeper (envOfC x (defScope st) s.heap.objs.size f cdv)) → sp vs H Q E →
      ∃ t, PSs (cxOf CX0 P w K mg base N x (defScope st) f cdv A outer s H E) (defBody st) t ∧ t { nx := fun _ H' => Q .non H', rt := Q } (start N vs) H) : Dn P w K mg base (k + 1) x st ps sp := by
  obtain ⟨f, fd, F, g⟩ := F
  exact ⟨f, fd, F, F.ok S len fun cdv A outer s H vs Q E hr h => hbody f cdv A outer s H vs Q E hr h, g, F.bindsN hbind⟩
end

/-- a module's constant -/
theorem pe_gv {X : Cx} {x : Str} {v : V} {pos : Pos} (hg : Gl X x) (h : ∃ u, X.mg x = some u ∧ RelV v u) (hd : (x == ("__debug__" : Str)) = false := by decide) : PE X (.Name x pos) (tC v) :=
  let ⟨_, hm, r⟩ := h
  pe_glob hg hm r hd
/-! ## operators that the layer lacks -/
section
variable {X : Cx}
/-- text * int -/
def rMulS : R2 := fun x y H Q => ∃ (z : Str) (n : Int), x = .str z ∧ y = .int n ∧ (2 ≤ n ∧ n ≤ 100000 ∧ 0 < z.length ∧ z.length * n.toNat ≤ sizeLine) ∧ Q (.str ⟨(List.replicate n.toNat z.cps).foldl (· ++ ·) #[]⟩) H
theorem size_rep (a : Array Nat) : ∀ (m : Nat) (acc : Array Nat), ((List.replicate m a).foldl (· ++ ·) acc).size = acc.size + m * a.size
  | 0, acc => by simp
  | m + 1, acc => by
    rw [List.replicate_succ, List.foldl_cons, size_rep a m, Array.size_append, Nat.succ_mul]
    omega
theorem op_mulS : OpR X (binaryOp .Mult) rMulS := by
  intro pins s σ H x y v u Q I rx ry h
  obtain ⟨z, n, rfl, rfl, ⟨h1, h2, h3, h4⟩, q⟩ := h
  obtain ⟨t, rfl⟩ := rx
  obtain ⟨t', rfl⟩ := ry
  have e2 : z.length * n.toNat ≤ 16777216 := by
    have e := sizeLine_eq
    omega
  refine PySem.P.mul_str ?_ ?_ ?_ ?_
  · rw [decide_eq_false (by omega), decide_eq_false (by omega)]
    rfl
  · intro _ _ hgt
    have e1 : (z.length : Int) * n ≤ 16777216 := by
      have e3 : ((n.toNat : Nat) : Int) = n := Int.toNat_of_nonneg (by omega)
      have e4 : ((z.length * n.toNat : Nat) : Int) ≤ ((16777216 : Nat) : Int) := Int.ofNat_le.mpr e2
      rw [Int.natCast_mul, e3] at e4
      exact e4
    have e5 : (z.length : Int) ≤ (2 ^ 63 - 1) / n := by
      rw [Int.le_ediv_iff_mul_le (by omega)]
      omega
    omega
  · intro _ _
    unfold PySem.Builtin.Str.tooLong
    rw [decide_eq_false_iff_not]
    omega
  · have n1 : ¬ n < 1 := by omega
    have n2 : (n == 1 || z.length == 0) = false := by
      rw [Bool.or_eq_false_iff]
      exact ⟨beq_eq_false_iff_ne.mpr (by omega), beq_eq_false_iff_ne.mpr (by omega)⟩
    rw [if_neg n1, n2]
    refine ⟨?_, ⟨.str _, H, I.tok _, ⟨_, rfl⟩, q⟩⟩
    show ((List.replicate n.toNat z.cps).foldl (· ++ ·) #[]).size ≤ sizeLine
    rw [size_rep]
    have e : z.length = z.cps.size := rfl
    rw [e, Nat.mul_comm] at h4
    simpa using h4
end

/-! ## readings under names, with their steps -/
section
variable {X : Cx} {K : PySem.W.Frag} {D : Ends} {σ : L2.St} {H : Hp} {Q : VK}
def rInt1 : List V → Hp → VK → Prop := fun xs H Q => (∃ i, xs = [.int i] ∧ Q (.int i) H) ∨ ∃ k, xs = [.bl k] ∧ Q (.int (if k then 1 else 0)) H
theorem cl_int1 : CallR X (.type "int") rInt1 := call_int1
theorem w_int1 {i : Int} (q : Q (.int i) H) : rInt1 [.int i] H Q := .inl ⟨i, rfl, q⟩
theorem w_int1b {k : Bool} (q : Q (.int (if k then 1 else 0)) H) : rInt1 [.bl k] H Q := .inr ⟨k, rfl, q⟩
def rAbs : List V → Hp → VK → Prop := fun xs H Q => ∃ i, xs = [.int i] ∧ Q (.int (if i < 0 then -i else i)) H
theorem cl_abs : CallR X (.builtin "abs") rAbs := call_abs
theorem w_abs {i : Int} (q : Q (.int (if i < 0 then -i else i)) H) : rAbs [.int i] H Q := ⟨i, rfl, q⟩
def rLenQ (K : PySem.W.Frag) : List V → Hp → VK → Prop := fun xs H Q => ∃ p ys, xs = [.ref p] ∧ (SqL K H p ys ∨ SqT K H p ys) ∧ Q (.int ys.length) H
theorem cl_lenQ : CallR X (.builtin "len") (rLenQ X.K) := call_len_seq
theorem w_lenL {p : Addr} {xs : List V} (h : H p = some (.lst xs)) (q : Q (.int xs.length) H) : rLenQ K [.ref p] H Q := ⟨p, xs, rfl, .inl (SqL.of h), q⟩
theorem w_lenT {p : Addr} {xs : List V} (h : H p = some (.tup xs)) (q : Q (.int xs.length) H) : rLenQ K [.ref p] H Q := ⟨p, xs, rfl, .inr (SqT.of h), q⟩
def rLenS : List V → Hp → VK → Prop := fun xs H Q => ∃ z, xs = [.str z] ∧ z.length ≤ sizeLine ∧ Q (.int z.length) H
theorem cl_lenS : CallR X (.builtin "len") rLenS := call_len_str
theorem w_lenS {z : Str} (h : z.length ≤ sizeLine) (q : Q (.int z.length) H) : rLenS [.str z] H Q := ⟨z, rfl, h, q⟩
def rStrI : List V → Hp → VK → Prop := fun xs H Q => ∃ i, xs = [.int i] ∧ i.natAbs.log2 < 1920 ∧ Q (.str (toString i)) H
theorem cl_strI : CallR X (.type "str") rStrI := call_str_int
theorem w_strI {i : Int} (h : i.natAbs.log2 < 1920) (q : Q (.str (toString i)) H) : rStrI [.int i] H Q := ⟨i, rfl, h, q⟩
def rIntS : List V → Hp → VK → Prop := fun xs H Q => ∃ a n, xs = [.str a] ∧ PySem.intText? a = some n ∧ a.length ≤ 640 ∧ Q (.int n) H
theorem cl_intS : CallR X (.type "int") rIntS := call_int_str
theorem w_intS {a : Str} {n : Int} (h : PySem.intText? a = some n) (l : a.length ≤ 640) (q : Q (.int n) H) : rIntS [.str a] H Q := ⟨a, n, rfl, h, l, q⟩
def rAddS : R2 := fun x y H Q => ∃ i j, x = .str i ∧ y = .str j ∧ i.length + j.length ≤ sizeLine ∧ Q (.str (i ++ j)) H
theorem op_addS : OpR X (binaryOp .Add) rAddS := op_add_str
theorem w_addS {a b : Str} (h : a.length + b.length ≤ sizeLine) (q : Q (.str (a ++ b)) H) : rAddS (.str a) (.str b) H Q := ⟨a, b, rfl, rfl, h, q⟩
def rIsN : R2 := fun x y H Q => y = .non ∧ Q (.bl (decide (x = .non))) H
theorem op_isN' : OpR X (compareOp .Is) rIsN := op_isN
theorem w_isN {x : V} (q : Q (.bl (decide (x = .non))) H) : rIsN x .non H Q := ⟨rfl, q⟩
def rNotN : R2 := fun x y H Q => y = .non ∧ Q (.bl (!decide (x = .non))) H
theorem op_notN' : OpR X (compareOp .IsNot) rNotN := op_notN
theorem w_notN {x : V} (q : Q (.bl (!decide (x = .non))) H) : rNotN x .non H Q := ⟨rfl, q⟩
def rIsB : R2 := fun x y H Q => ∃ a b, x = .bl a ∧ y = .bl b ∧ Q (.bl (decide (a = b))) H
theorem op_isB : OpR X (compareOp .Is) rIsB := op_is_bl
theorem w_isB {a b : Bool} (q : Q (.bl (decide (a = b))) H) : rIsB (.bl a) (.bl b) H Q := ⟨a, b, rfl, rfl, q⟩
def rIsNotB : R2 := fun x y H Q => ∃ a b, x = .bl a ∧ y = .bl b ∧ Q (.bl (!decide (a = b))) H
theorem op_isNotB : OpR X (compareOp .IsNot) rIsNotB := op_isnot_bl
theorem w_isNotB {a b : Bool} (q : Q (.bl (!decide (a = b))) H) : rIsNotB (.bl a) (.bl b) H Q := ⟨a, b, rfl, rfl, q⟩
def rInS : R2 := fun x y H Q => ∃ i j, x = .str i ∧ y = .str j ∧ Q (.bl (!(Builtin.Str.occurrences j i 0 j.length 1).isEmpty)) H
theorem op_inS' : OpR X (compareOp .In) rInS := op_in_str
def rIn1 : R2 := fun x y H Q => ∃ (c : Nat) (z : Str), x = .str ⟨#[c]⟩ ∧ y = .str z ∧ Q (.bl (decide (c ∈ z.cps.toList))) H
theorem op_in1 : OpR X (compareOp .In) rIn1 := op_in_sign
theorem w_in1 {c : Nat} {z : Str} (q : Q (.bl (decide (c ∈ z.cps.toList))) H) : rIn1 (.str ⟨#[c]⟩) (.str z) H Q := ⟨c, z, rfl, rfl, q⟩
def rNotIn1 : R2 := fun x y H Q => ∃ (c : Nat) (z : Str), x = .str ⟨#[c]⟩ ∧ y = .str z ∧ Q (.bl (!decide (c ∈ z.cps.toList))) H
theorem op_notIn1 : OpR X (compareOp .NotIn) rNotIn1 := op_notIn_sign
theorem w_notIn1 {c : Nat} {z : Str} (q : Q (.bl (!decide (c ∈ z.cps.toList))) H) : rNotIn1 (.str ⟨#[c]⟩) (.str z) H Q := ⟨c, z, rfl, rfl, q⟩
def rListOf (K : PySem.W.Frag) : List V → Hp → VK → Prop := fun xs H Q => ∃ p ys, xs = [.ref p] ∧ (SqL K H p ys ∨ SqT K H p ys) ∧ ∀ l, H l = none → Q (.ref l) (upd H l (.lst ys))
theorem cl_listOf : CallR X (.type "list") (rListOf X.K) := call_list_of
theorem w_listOfK {p : Addr} {ys : List V} (h : SqL K H p ys) (q : ∀ l, H l = none → Q (.ref l) (upd H l (.lst ys))) : rListOf K [.ref p] H Q := ⟨p, ys, rfl, .inl h, q⟩
theorem w_max2 {i j : Int} (q : Q (.int (if j > i then j else i)) H) : (fun (xs : List V) (H : Hp) (Q : VK) => ∃ i j, xs = [.int i, .int j] ∧ Q (.int (if j > i then j else i)) H) [.int i, .int j] H Q := ⟨i, j, rfl, q⟩

theorem w_start {t : TS} {N : List Str} {vs : List V} (e : start N vs = σ) (q : t D σ H) : t D (start N vs) H := e ▸ q
theorem w_ixL {p : Addr} {xs : List V} {i : Int} {v : V} (h : H p = some (.lst xs)) (e : atI xs i = some v) (q : Q v H) : rIxL K (.ref p) (.int i) H Q := ⟨p, xs, i, v, rfl, rfl, SqL.of h, e, q⟩
theorem w_ixT {p : Addr} {xs : List V} {i : Int} {v : V} (h : H p = some (.tup xs)) (e : atI xs i = some v) (q : Q v H) : rIxT K (.ref p) (.int i) H Q := ⟨p, xs, i, v, rfl, rfl, SqT.of h, e, q⟩
theorem w_setL {R : Hp → Prop} {p : Addr} {xs : List V} {k : Int} {v : V} {j : Nat} (h : H p = some (.lst xs)) (e : ixN xs.length k = some j) (q : R (upd H p (.lst (xs.set j v)))) : rSetL (.ref p) (.int k) v H R := ⟨p, xs, k, j, rfl, rfl, h, e, q⟩
theorem w_set31 {R : Hp → Prop} {p : Addr} {a b c v : V} (h : H p = some (.lst [a, b, c])) (q : R (upd H p (.lst [a, v, c]))) : rSetL (.ref p) (.int 1) v H R := w_setL h (j := 1) rfl q
theorem w_set32 {R : Hp → Prop} {p : Addr} {a b c v : V} (h : H p = some (.lst [a, b, c])) (q : R (upd H p (.lst [a, b, v]))) : rSetL (.ref p) (.int 2) v H R := w_setL h (j := 2) rfl q
theorem w_gSub {to ti : TE} {t : TSet} {v : V} {R : L2.St → Hp → Prop} (q : to σ H fun o H1 => ti σ H1 fun i H2 => t o i v H2 fun H3 => R σ H3) : gSub to ti t v σ H R := q
/-- a branch by a test's answer -/
theorem w_ite {c A B : Prop} [Decidable c] (h1 : c → A) (h2 : ¬ c → B) : if decide c = true then A else B := by
  by_cases h : c
  · rw [if_pos (decide_eq_true h)]
    exact h1 h
  · rw [if_neg (by rw [decide_eq_false h]; exact Bool.false_ne_true)]
    exact h2 h
theorem w_iteT {A B : Prop} {b : Bool} (h : b = true) (q : A) : if b = true then A else B := by rw [if_pos h]; exact q
theorem w_iteF {A B : Prop} {b : Bool} (h : b = false) (q : B) : if b = true then A else B := by rw [if_neg (by rw [h]; exact Bool.false_ne_true)]; exact q
theorem upd_upd' {a : Addr} {o u : HO} : upd (upd H a o) a u = upd H a u := upd_upd
def CMulA (i j : Int) : Prop := CMul i j ∨ CMulW i j
theorem op_mulA : OpR X (binaryOp .Mult) (rI CMulA fun i j => .int (i * j)) := opI fun _ _ _ _ _ _ _ hc q => mul_int q (hc.elim (fun h => h.ok) fun h => h.ok)
theorem dpAll_ints {K : PySem.W.Frag} {H : Hp} : ∀ ns : List Int, DpAll K H (ns.map V.int) (ns.map PyData.int)
  | [] => .nil
  | n :: ns => .cons (.int n) (dpAll_ints ns)
theorem canLay_ints : ∀ ns : List Int, PyData.canLayAll0 (ns.map PyData.int) = true
  | [] => rfl
  | n :: ns => by
    show (PyData.canLay0 (.int n) && PyData.canLayAll0 (ns.map PyData.int)) = true
    rw [canLay_ints ns]
    rfl
theorem depth_ints : ∀ ns : List Int, PyData.depthAll (ns.map PyData.int) ≤ 1
  | [] => by decide
  | n :: ns => by
    have h := depth_ints ns
    show max (PyData.depth (.int n)) (PyData.depthAll (ns.map PyData.int)) ≤ 1
    exact Nat.max_le.mpr ⟨Nat.zero_le _, h⟩
theorem shaped_ints (ns : List Int) : SeqAt.shaped (.list (ns.map PyData.int)) = true := by
  unfold SeqAt.shaped
  rw [Bool.and_eq_true]
  refine ⟨canLay_ints ns, decide_eq_true ?_⟩
  have h := depth_ints ns
  show PyData.depthAll (ns.map PyData.int) + 1 ≤ 64
  omega
theorem w_neNil {c q : Addr} {ns : List Int} (h : H c = some (.lst (ns.map V.int))) (h2 : H q = some (.lst [])) (k : Q (.bl (!decide (ns = []))) H) : rNeD K (.ref c) (.ref q) H Q := by
  refine ⟨.list (ns.map PyData.int), .list [], .lst (SqL.of h) (dpAll_ints ns), .lst (SqL.of h2) .nil, shaped_ints ns, by decide, ?_⟩
  have e : PyData.eqv (.list (ns.map PyData.int)) (.list []) = decide (ns = []) := by
    cases ns with
    | nil => rfl
    | cons n r => rfl
  rw [e]
  exact k
theorem w_itN {c A B : Prop} [Decidable c] (h1 : ¬ c → A) (h2 : c → B) : if (!decide c) = true then A else B := by
  by_cases h : c
  · rw [decide_eq_true h]
    exact iteF (h2 h)
  · rw [decide_eq_false h]
    exact iteT (h1 h)
theorem atI_map {ns : List Int} {i : Int} (h0 : 0 ≤ i) (h1 : i < ns.length) : atI (ns.map V.int) i = some (.int (ns.getD i.toNat 0)) := by
  have h2 : i.toNat < ns.length := by omega
  unfold atI ixN
  rw [List.length_map, if_pos h0, if_pos h1]
  show (ns.map V.int)[i.toNat]? = _
  rw [List.getElem?_map, List.getElem?_eq_getElem h2]
  show some (V.int ns[i.toNat]) = some (V.int (ns.getD i.toNat 0))
  rw [List.getD_eq_getElem?_getD, List.getElem?_eq_getElem h2]
  rfl
end

/-! ## comprehensions whose element is a value of the item -/
/-- a walk over xs that leaves the heap as it is, wherever what H1 held stands -/
structure PureIt (J : It) (H1 : Hp) (xs : List V) : Prop where
  go : ∀ H', Same H1 H' → ∀ i, i < xs.length → J.go i H'
  stop : ∀ H', Same H1 H' → ∀ i, xs.length ≤ i → J.stop i H'
  yld : ∀ H', Same H1 H' → ∀ i x H'', i < xs.length → J.yld i H' x H'' → H'' = H' ∧ xs[i]? = some x
section
variable {K : PySem.W.Frag} {H1 : Hp} {σ : L2.St} {Q : VK}
theorem pureIt_list {a : Addr} {xs : List V} (h : SqL K H1 a xs) : PureIt (Itl K a) H1 xs where
  go := fun H' e i hi => ⟨xs, xs[i], e.seq h, List.getElem?_eq_getElem hi⟩
  stop := fun H' e i hi => ⟨xs, e.seq h, hi⟩
  yld := fun H' e i x H'' _ y => ⟨y.1, y.2 xs (e.seq h)⟩
theorem same_seqT {H H' : Hp} {a : Addr} {xs : List V} (e : Same H H') (h : SqT K H a xs) : SqT K H' a xs := by
  rcases h with (h | ⟨o, h⟩) | h
  · exact .inl (.inl (e _ _ h))
  · exact .inl (.inr ⟨o, e _ _ h⟩)
  · exact .inr h
theorem pureIt_tup {a : Addr} {xs : List V} (h : SqT K H1 a xs) : PureIt (Itt K a) H1 xs where
  go := fun H' e i hi => ⟨xs, xs[i], same_seqT e h, List.getElem?_eq_getElem hi⟩
  stop := fun H' e i hi => ⟨xs, same_seqT e h, hi⟩
  yld := fun H' e i x H'' _ y => ⟨y.1, y.2 xs (same_seqT e h)⟩
/-- the signs of a text, as texts -/
def signsV (z : Str) : List V := z.cps.toList.map fun c => .str ⟨#[c]⟩
theorem pureIt_str {z : Str} : PureIt (Its z) H1 (signsV z) where
  go := fun H' _ i hi => by
    have : (signsV z).length = z.cps.size := by simp [signsV]
    show i < z.cps.size
    omega
  stop := fun H' _ i hi => by
    have : (signsV z).length = z.cps.size := by simp [signsV]
    show z.cps.size ≤ i
    omega
  yld := fun H' _ i x H'' _ y => by
    obtain ⟨e, c, h1, rfl⟩ := y
    refine ⟨e, ?_⟩
    unfold signsV
    rw [List.getElem?_map, Array.getElem?_toList, h1]
    rfl
/-- the ints of a range -/
def rangeV (lo : Int) (n : Nat) : List V := (List.range n).map fun (i : Nat) => .int (lo + i)
theorem pureIt_rng {lo : Int} {n : Nat} : PureIt (Itr lo n) H1 (rangeV lo n) where
  go := fun H' _ i hi => by
    have : (rangeV lo n).length = n := by simp [rangeV]
    show i < n
    omega
  stop := fun H' _ i hi => by
    have : (rangeV lo n).length = n := by simp [rangeV]
    show n ≤ i
    omega
  yld := fun H' _ i x H'' hi y => by
    have e : (rangeV lo n).length = n := by simp [rangeV]
    refine ⟨y.1, ?_⟩
    rw [y.2]
    unfold rangeV
    rw [List.getElem?_map, List.getElem?_range (by omega)]
    rfl
theorem same_new {H' : Hp} {D : Addr} {o : HO} (h : H1 D = none) (e : Same H1 H') : Same H1 (upd H' D o) := fun b u hb => by
  rw [upd_ne (ne_of_none hb h)]
  exact e b u hb
/-- [e for x in xs if t]: p and f say what the test and the element are worth; anything may be made on the way -/
theorem lcI_by {J : It} {xs : List V} {k : Nat} {tt : TT} {te : TE} {vs : List Nat} (p : V → Bool) (f : V → V) (hJ : PureIt J H1 xs) (hl : xs.length ≤ sizeLine)
    (ht : ∀ x ∈ xs, ∀ H', Same H1 H' → ∀ R : Bool → Hp → Prop, (∀ H'', Same H' H'' → R (p x) H'') → tt ((wipe σ vs).set k (some x)) H' R)
    (hel : ∀ x ∈ xs, p x = true → ∀ H', Same H1 H' → ∀ R : VK, (∀ H'', Same H' H'' → R (f x) H'') → te ((wipe σ vs).set k (some x)) H' R)
    (q : ∀ D H', H1 D = none → Same H1 H' → H' D = some (.lst ((xs.filter p).map f)) → Q (.ref D) H') (hw : ∀ v, wipe ((wipe σ vs).set k (some v)) vs = wipe σ vs := by intro _; rfl) :
    ∀ D, H1 D = none → ∃ W : Nat → Nat → Hp → Prop, (∃ m, W 0 m (upd H1 D (.lst []))) ∧ ∀ i m H, W i m H →
      (J.stop i H ∧ Q (.ref D) H) ∨ (J.go i H ∧ ∃ Nx : Hp → Prop, (∀ H', Nx H' → ∃ m', m' < m ∧ W (i + 1) m' H') ∧ ∀ x H', J.yld i H x H' → gName k x (wipe σ vs) H' fun σ2 H2 => wipe σ2 vs = wipe σ vs ∧ tt σ2 H2 fun b H3 =>
        if b = true then te σ2 H3 fun y H4 => ∃ acc, H4 D = some (.lst acc) ∧ acc.length < sizeLine ∧ Nx (upd H4 D (.lst (acc ++ [y]))) else Nx H3) := by
  intro D hD
  refine ⟨fun i m H => m = xs.length - i ∧ i ≤ xs.length ∧ Same H1 H ∧ H D = some (.lst (((xs.take i).filter p).map f)), ⟨xs.length, by simp, Nat.zero_le _, same_new hD (Same.refl H1), upd_same⟩, ?_⟩
  rintro i m H ⟨rfl, hi, e, hd⟩
  by_cases hlt : i < xs.length
  · refine .inr ⟨hJ.go H e i hlt, fun H' => Same H1 H' ∧ H' D = some (.lst (((xs.take (i + 1)).filter p).map f)), fun H' ⟨e', d'⟩ => ⟨xs.length - (i + 1), by omega, rfl, hlt, e', d'⟩, fun x H' y => ?_⟩
    obtain ⟨rfl, hx⟩ := hJ.yld H e i x H' hlt y
    have hm : x ∈ xs := List.mem_of_getElem? hx
    have htk : xs.take (i + 1) = xs.take i ++ [x] := by rw [List.take_add_one, hx]; rfl
    refine ⟨hw x, ht x hm H' e _ fun H2 e2 => ?_⟩
    cases hp : p x with
    | true =>
      rw [if_pos rfl]
      refine hel x hm hp H2 (e.trans e2) _ fun H3 e3 => ⟨((xs.take i).filter p).map f, e3 _ _ (e2 _ _ hd), ?_, ?_, ?_⟩
      · have h1 : ((xs.take i).filter p).length ≤ (xs.take i).length := List.length_filter_le ..
        rw [List.length_map]
        rw [List.length_take] at h1
        omega
      · exact same_new hD ((e.trans e2).trans e3)
      · rw [upd_same, htk, List.filter_append, List.map_append, List.filter_cons, hp]
        rfl
    | false =>
      rw [if_neg Bool.false_ne_true]
      refine ⟨e.trans e2, ?_⟩
      rw [e2 _ _ hd, htk, List.filter_append, List.filter_cons, hp]
      simp
  · have hi' : i = xs.length := by omega
    subst hi'
    refine .inl ⟨hJ.stop H e _ (Nat.le_refl _), q D H hD e ?_⟩
    rw [hd, List.take_length]
/-- without a test -/
theorem lcI_map {J : It} {xs : List V} {k : Nat} {te : TE} {vs : List Nat} (f : V → V) (hJ : PureIt J H1 xs) (hl : xs.length ≤ sizeLine)
    (hel : ∀ x ∈ xs, ∀ H', Same H1 H' → ∀ R : VK, (∀ H'', Same H' H'' → R (f x) H'') → te ((wipe σ vs).set k (some x)) H' R)
    (q : ∀ D H', H1 D = none → Same H1 H' → H' D = some (.lst (xs.map f)) → Q (.ref D) H') (hw : ∀ v, wipe ((wipe σ vs).set k (some v)) vs = wipe σ vs := by intro _; rfl) :
    ∀ D, H1 D = none → ∃ W : Nat → Nat → Hp → Prop, (∃ m, W 0 m (upd H1 D (.lst []))) ∧ ∀ i m H, W i m H →
      (J.stop i H ∧ Q (.ref D) H) ∨ (J.go i H ∧ ∃ Nx : Hp → Prop, (∀ H', Nx H' → ∃ m', m' < m ∧ W (i + 1) m' H') ∧ ∀ x H', J.yld i H x H' → gName k x (wipe σ vs) H' fun σ2 H2 => wipe σ2 vs = wipe σ vs ∧ tYes σ2 H2 fun b H3 =>
        if b = true then te σ2 H3 fun y H4 => ∃ acc, H4 D = some (.lst acc) ∧ acc.length < sizeLine ∧ Nx (upd H4 D (.lst (acc ++ [y]))) else Nx H3) :=
  lcI_by (fun _ => true) f hJ hl (fun _ _ H' _ R hR => hR H' (Same.refl H')) (fun x hm _ => hel x hm) (fun D H' h1 h2 h3 => q D H' h1 h2 (by rw [h3, List.filter_eq_self.mpr fun _ _ => rfl])) hw
theorem w_lc {wi : TI} {g : TG} {tt : TT} {te : TE} {vs : List Nat} {H : Hp} (q : wi σ H fun J H1 => ∀ D, H1 D = none → ∃ W : Nat → Nat → Hp → Prop, (∃ m, W 0 m (upd H1 D (.lst []))) ∧ ∀ i m H, W i m H →
      (J.stop i H ∧ Q (.ref D) H) ∨ (J.go i H ∧ ∃ Nx : Hp → Prop, (∀ H', Nx H' → ∃ m', m' < m ∧ W (i + 1) m' H') ∧ ∀ x H', J.yld i H x H' → g x (wipe σ vs) H' fun σ2 H2 => wipe σ2 vs = wipe σ vs ∧ tt σ2 H2 fun b H3 =>
        if b = true then te σ2 H3 fun y H4 => ∃ acc, H4 D = some (.lst acc) ∧ acc.length < sizeLine ∧ Nx (upd H4 D (.lst (acc ++ [y]))) else Nx H3)) : tLc wi g tt te vs σ H Q := q
theorem w_iStr {te : TE} {R : It → Hp → Prop} {H : Hp} (q : te σ H fun v H1 => ∃ x, v = .str x ∧ R (Its x) H1) : iStr te σ H R := q
theorem w_str {a : Str} {P : Str → Prop} (q : P a) : ∃ i, V.str a = .str i ∧ P i := ⟨a, rfl, q⟩
theorem w_iRng1 {ta : TA} {R : It → Hp → Prop} {H : Hp} (q : ta σ H fun vs H1 => ∃ j : Int, vs = [.int j] ∧ -(2 ^ 62) ≤ j ∧ j < 2 ^ 62 ∧ R (Itr 0 j.toNat) H1) : iRng1 ta σ H R := q
theorem w_rng1 {j : Int} {P : Int → Prop} (h : -(2 ^ 62) ≤ j ∧ j < 2 ^ 62) (q : P j) : ∃ i : Int, [V.int j] = [.int i] ∧ -(2 ^ 62) ≤ i ∧ i < 2 ^ 62 ∧ P i := ⟨j, rfl, h.1, h.2, q⟩
theorem w_iRng2 {ta : TA} {R : It → Hp → Prop} {H : Hp} (q : ta σ H fun vs H1 => ∃ i j : Int, vs = [.int i, .int j] ∧ (-(2 ^ 62) ≤ i ∧ i < 2 ^ 62 ∧ -(2 ^ 62) ≤ j ∧ j < 2 ^ 62) ∧ R (Itr i (j - i).toNat) H1) : iRng2 ta σ H R := q
theorem w_rng2 {a b : Int} {P : Int → Int → Prop} (h : -(2 ^ 62) ≤ a ∧ a < 2 ^ 62 ∧ -(2 ^ 62) ≤ b ∧ b < 2 ^ 62) (q : P a b) : ∃ i j : Int, [V.int a, V.int b] = [.int i, .int j] ∧ (-(2 ^ 62) ≤ i ∧ i < 2 ^ 62 ∧ -(2 ^ 62) ≤ j ∧ j < 2 ^ 62) ∧ P i j := ⟨a, b, rfl, h, q⟩
theorem w_iList {tl : TE} {R : It → Hp → Prop} {H : Hp} (q : tl σ H fun x H1 => ∃ a, x = .ref a ∧ (∃ xs, SqL K H1 a xs) ∧ R (Itl K a) H1) : iList K tl σ H R := q
theorem w_lstAt {H : Hp} {p : Addr} {xs : List V} {P : Addr → Prop} (h : H p = some (.lst xs)) (q : P p) : ∃ a, V.ref p = .ref a ∧ (∃ xs, SqL K H a xs) ∧ P a := ⟨p, rfl, ⟨xs, SqL.of h⟩, q⟩
theorem w_iTup {tl : TE} {R : It → Hp → Prop} {H : Hp} (q : tl σ H fun x H1 => ∃ a, x = .ref a ∧ (∃ xs, SqT K H1 a xs) ∧ R (Itt K a) H1) : iTup K tl σ H R := q
theorem w_tupAt {H : Hp} {p : Addr} {xs : List V} {P : Addr → Prop} (h : H p = some (.tup xs)) (q : P p) : ∃ a, V.ref p = .ref a ∧ (∃ xs, SqT K H a xs) ∧ P a := ⟨p, rfl, ⟨xs, SqT.of h⟩, q⟩
theorem w_for {wi : TI} {g : TG} {tb : TS} {D : Ends} {H : Hp} (q : wi σ H fun J H1 => ∃ W : Nat → Nat → L2.St → Hp → Prop, (∃ m, W 0 m σ H1) ∧ ∀ i m σ H, W i m σ H →
  (J.stop i H ∧ D.nx σ H) ∨ (J.go i H ∧ ∃ N : L2.St → Hp → Prop, (∀ σ' H', N σ' H' → ∃ m', m' < m ∧ W (i + 1) m' σ' H') ∧ ∀ x H', J.yld i H x H' → g x σ H' fun σ2 H2 => tb { D with nx := N, ct := N, bk := D.nx } σ2 H2)) : tFor wi g tb D σ H := q
/-- all([..]), any([..]) of a new list of bools -/
theorem w_all {p : Addr} {bs : List Bool} {H : Hp} (h : H p = some (.lst (bs.map V.bl))) (q : Q (.bl (bs.all id)) H) : rAll K [.ref p] H Q := ⟨p, bs, rfl, SqL.of h, q⟩
theorem w_any {p : Addr} {bs : List Bool} {H : Hp} (h : H p = some (.lst (bs.map V.bl))) (q : Q (.bl (bs.any id)) H) : rAny K [.ref p] H Q := ⟨p, bs, rfl, SqL.of h, q⟩
theorem w_slS {z : Str} {lo hi : Option Int} {H : Hp} (h : z.length ≤ sizeLine) (q : Q (.str (cutS z lo hi)) H) : rSlS (.str z) lo hi H Q := ⟨z, rfl, h, q⟩
theorem w_slL {a : Addr} {xs : List V} {lo hi : Option Int} {H : Hp} (h : SqL K H a xs) (q : ∀ p, H p = none → Q (.ref p) (upd H p (.lst (cutV xs lo hi)))) : rSlL K (.ref a) lo hi H Q := ⟨a, xs, rfl, h, q⟩
end

/-! ## values of built-in kinds -/
inductive BV (H : Hp) : V → String → Prop
  | non : BV H .non "NoneType"
  | bl (b : Bool) : BV H (.bl b) "bool"
  | int (i : Int) : BV H (.int i) "int"
  | str (z : Str) : BV H (.str z) "str"
  | lst {a : Addr} {xs : List V} (h : H a = some (.lst xs)) : BV H (.ref a) "list"
  | tup {a : Addr} {xs : List V} (h : H a = some (.tup xs)) : BV H (.ref a) "tuple"
  | dK {a : Addr} {kvs : List (Key × V)} (h : H a = some (.dK kvs)) : BV H (.ref a) "dict"
theorem BV.ty {K : PySem.W.Frag} {H : Hp} {x : V} {n : String} (b : BV H x n) : TyX K H x (.type n) := by
  cases b with
  | non => exact .base .non
  | bl b => exact .base (.bl b)
  | int i => exact .base (.int i)
  | str z => exact .base (.str z)
  | lst h => exact .base (.lst h)
  | tup h => exact .base (.tup h)
  | dK h => exact .base (.dK h)
theorem BV.same {H H' : Hp} {x : V} {n : String} (e : Same H H') (b : BV H x n) : BV H' x n := by
  cases b with
  | non => exact .non
  | bl b => exact .bl b
  | int i => exact .int i
  | str z => exact .str z
  | lst h => exact .lst (e _ _ h)
  | tup h => exact .tup (e _ _ h)
  | dK h => exact .dK (e _ _ h)
section
variable {K : PySem.W.Frag} {H : Hp} {Q : VK} {x : V} {n : String}
theorem w_isi {c : String} {k : Bool} (b : BV H x n) (e : PySem.W.kitOne K (.type n) (.type c) = some k) (q : Q (.bl k) H) : rIsi K [x, .ty c] H Q := ⟨x, .ty c, .type n, .type c, k, rfl, .ty c, b.ty, e, q⟩
theorem w_isiInt (b : BV H x n) (q : Q (.bl (n == "int" || n == "bool")) H) : rIsi K [x, .ty "int"] H Q := by
  refine w_isi b (k := (n == "int" || n == "bool")) ?_ q
  cases b <;> exact kit_ty (by decide +kernel)
theorem w_isiBool (b : BV H x n) (q : Q (.bl (n == "bool")) H) : rIsi K [x, .ty "bool"] H Q := by
  refine w_isi b (k := (n == "bool")) ?_ q
  cases b <;> exact kit_ty (by decide +kernel)
theorem w_isiStr (b : BV H x n) (q : Q (.bl (n == "str")) H) : rIsi K [x, .ty "str"] H Q := by
  refine w_isi b (k := (n == "str")) ?_ q
  cases b <;> exact kit_ty (by decide +kernel)
end
def isIntV : V → Bool
  | .int _ => true
  | _ => false
def betV (lo hi : Int) : V → Bool
  | .int i => decide (lo ≤ i) && decide (i ≤ hi)
  | _ => false

/-! ## comprehensions over a text's signs, over a range -/
section
variable {H1 : Hp} {σ : L2.St} {Q : VK}
theorem lcI_strBy {z : Str} {k : Nat} {tt : TT} {te : TE} {vs : List Nat} (p : Nat → Bool) (f : Nat → V) (hl : z.length ≤ sizeLine)
    (ht : ∀ c ∈ z.cps.toList, ∀ H', Same H1 H' → ∀ R : Bool → Hp → Prop, (∀ H'', Same H' H'' → R (p c) H'') → tt ((wipe σ vs).set k (some (.str ⟨#[c]⟩))) H' R)
    (hel : ∀ c ∈ z.cps.toList, p c = true → ∀ H', Same H1 H' → ∀ R : VK, (∀ H'', Same H' H'' → R (f c) H'') → te ((wipe σ vs).set k (some (.str ⟨#[c]⟩))) H' R)
    (q : ∀ D H', H1 D = none → Same H1 H' → H' D = some (.lst ((z.cps.toList.filter p).map f)) → Q (.ref D) H') (hw : ∀ v, wipe ((wipe σ vs).set k (some v)) vs = wipe σ vs := by intro _; rfl) :
    ∀ D, H1 D = none → ∃ W : Nat → Nat → Hp → Prop, (∃ m, W 0 m (upd H1 D (.lst []))) ∧ ∀ i m H, W i m H →
      ((Its z).stop i H ∧ Q (.ref D) H) ∨ ((Its z).go i H ∧ ∃ Nx : Hp → Prop, (∀ H', Nx H' → ∃ m', m' < m ∧ W (i + 1) m' H') ∧ ∀ x H', (Its z).yld i H x H' → gName k x (wipe σ vs) H' fun σ2 H2 => wipe σ2 vs = wipe σ vs ∧ tt σ2 H2 fun b H3 =>
        if b = true then te σ2 H3 fun y H4 => ∃ acc, H4 D = some (.lst acc) ∧ acc.length < sizeLine ∧ Nx (upd H4 D (.lst (acc ++ [y]))) else Nx H3) := by
  let pV : V → Bool := fun x => match x with | .str s => p (s.cps.toList.headD 0) | _ => true
  let fV : V → V := fun x => match x with | .str s => f (s.cps.toList.headD 0) | _ => .non
  have hm : ∀ x ∈ signsV z, ∃ c ∈ z.cps.toList, x = .str ⟨#[c]⟩ := fun x hx => by
    obtain ⟨c, h1, h2⟩ := List.mem_map.mp hx
    exact ⟨c, h1, h2.symm⟩
  have e : ∀ l : List Nat, ((l.map fun c => V.str ⟨#[c]⟩).filter pV).map fV = (l.filter p).map f := fun l => by
    induction l with
    | nil => rfl
    | cons c l ih =>
      rw [List.map_cons, List.filter_cons, List.filter_cons]
      have h1 : pV (.str ⟨#[c]⟩) = p c := rfl
      rw [h1]
      cases p c with
      | true => rw [if_pos rfl, if_pos rfl, List.map_cons, List.map_cons, ih]; rfl
      | false => rw [if_neg Bool.false_ne_true, if_neg Bool.false_ne_true, ih]
  refine lcI_by pV fV pureIt_str (by rw [show (signsV z).length = z.length by simp [signsV, PySem.Str.length]]; exact hl) (fun x hx H' e1 R hR => ?_) (fun x hx hp H' e1 R hR => ?_) (fun D H' h1 h2 h3 => q D H' h1 h2 (by rw [h3]; exact congrArg (fun l => some (HO.lst l)) (e _))) hw
  · obtain ⟨c, hc, rfl⟩ := hm x hx
    exact ht c hc H' e1 R hR
  · obtain ⟨c, hc, rfl⟩ := hm x hx
    exact hel c hc hp H' e1 R hR
theorem lcI_str {z : Str} {k : Nat} {te : TE} {vs : List Nat} (f : Nat → V) (hl : z.length ≤ sizeLine)
    (hel : ∀ c ∈ z.cps.toList, ∀ H', Same H1 H' → ∀ R : VK, (∀ H'', Same H' H'' → R (f c) H'') → te ((wipe σ vs).set k (some (.str ⟨#[c]⟩))) H' R)
    (q : ∀ D H', H1 D = none → Same H1 H' → H' D = some (.lst (z.cps.toList.map f)) → Q (.ref D) H') (hw : ∀ v, wipe ((wipe σ vs).set k (some v)) vs = wipe σ vs := by intro _; rfl) :
    ∀ D, H1 D = none → ∃ W : Nat → Nat → Hp → Prop, (∃ m, W 0 m (upd H1 D (.lst []))) ∧ ∀ i m H, W i m H →
      ((Its z).stop i H ∧ Q (.ref D) H) ∨ ((Its z).go i H ∧ ∃ Nx : Hp → Prop, (∀ H', Nx H' → ∃ m', m' < m ∧ W (i + 1) m' H') ∧ ∀ x H', (Its z).yld i H x H' → gName k x (wipe σ vs) H' fun σ2 H2 => wipe σ2 vs = wipe σ vs ∧ tYes σ2 H2 fun b H3 =>
        if b = true then te σ2 H3 fun y H4 => ∃ acc, H4 D = some (.lst acc) ∧ acc.length < sizeLine ∧ Nx (upd H4 D (.lst (acc ++ [y]))) else Nx H3) :=
  lcI_strBy (fun _ => true) f hl (fun _ _ H' _ R hR => hR H' (Same.refl H')) (fun c hc _ => hel c hc) (fun D H' h1 h2 h3 => q D H' h1 h2 (by rw [h3, List.filter_eq_self.mpr fun _ _ => rfl])) hw
theorem lcI_rng {lo : Int} {n : Nat} {k : Nat} {te : TE} {vs : List Nat} (f : Nat → V) (hl : n ≤ sizeLine)
    (hel : ∀ i, i < n → ∀ H', Same H1 H' → ∀ R : VK, (∀ H'', Same H' H'' → R (f i) H'') → te ((wipe σ vs).set k (some (.int (lo + i)))) H' R)
    (q : ∀ D H', H1 D = none → Same H1 H' → H' D = some (.lst ((List.range n).map f)) → Q (.ref D) H') (hw : ∀ v, wipe ((wipe σ vs).set k (some v)) vs = wipe σ vs := by intro _; rfl) :
    ∀ D, H1 D = none → ∃ W : Nat → Nat → Hp → Prop, (∃ m, W 0 m (upd H1 D (.lst []))) ∧ ∀ i m H, W i m H →
      ((Itr lo n).stop i H ∧ Q (.ref D) H) ∨ ((Itr lo n).go i H ∧ ∃ Nx : Hp → Prop, (∀ H', Nx H' → ∃ m', m' < m ∧ W (i + 1) m' H') ∧ ∀ x H', (Itr lo n).yld i H x H' → gName k x (wipe σ vs) H' fun σ2 H2 => wipe σ2 vs = wipe σ vs ∧ tYes σ2 H2 fun b H3 =>
        if b = true then te σ2 H3 fun y H4 => ∃ acc, H4 D = some (.lst acc) ∧ acc.length < sizeLine ∧ Nx (upd H4 D (.lst (acc ++ [y]))) else Nx H3) := by
  let fV : V → V := fun x => match x with | .int i => f (i - lo).toNat | _ => .non
  refine lcI_map fV pureIt_rng (by simpa [rangeV] using hl) (fun x hx H' e1 R hR => ?_) (fun D H' h1 h2 h3 => q D H' h1 h2 ?_) hw
  · obtain ⟨i, hi, rfl⟩ := List.mem_map.mp hx
    have hi' : i < n := List.mem_range.mp hi
    have e : fV (.int (lo + (i : Int))) = f i := by
      show f (lo + (i : Int) - lo).toNat = f i
      congr 1
      omega
    rw [e] at hR
    exact hel i hi' H' e1 R hR
  · rw [h3]
    unfold rangeV
    rw [List.map_map]
    congr 2
    refine List.map_congr_left fun i _ => ?_
    show f (lo + (i : Int) - lo).toNat = f i
    congr 1
    omega
end
/-! ## .. the whole comprehension: ts is its source's reading, hs what it gives -/
section
variable {K : PySem.W.Frag} {σ : L2.St} {Q : VK} {k : Nat} {tt : TT} {te ts : TE} {vs : List Nat} {H : Hp}
theorem lc_strBy (H1 : Hp) (z : Str) (p : Nat → Bool) (f : Nat → V) (hs : ∀ R : VK, R (.str z) H1 → ts σ H R) (hl : z.length ≤ sizeLine)
    (ht : ∀ c ∈ z.cps.toList, ∀ H', Same H1 H' → ∀ R : Bool → Hp → Prop, (∀ H'', Same H' H'' → R (p c) H'') → tt ((wipe σ vs).set k (some (.str ⟨#[c]⟩))) H' R)
    (hel : ∀ c ∈ z.cps.toList, p c = true → ∀ H', Same H1 H' → ∀ R : VK, (∀ H'', Same H' H'' → R (f c) H'') → te ((wipe σ vs).set k (some (.str ⟨#[c]⟩))) H' R)
    (q : ∀ D H', H1 D = none → Same H1 H' → H' D = some (.lst ((z.cps.toList.filter p).map f)) → Q (.ref D) H') (hw : ∀ v, wipe ((wipe σ vs).set k (some v)) vs = wipe σ vs := by intro _; rfl) :
    tLc (iStr ts) (gName k) tt te vs σ H Q := hs _ ⟨z, rfl, lcI_strBy p f hl ht hel q hw⟩
theorem lc_str (H1 : Hp) (z : Str) (f : Nat → V) (hs : ∀ R : VK, R (.str z) H1 → ts σ H R) (hl : z.length ≤ sizeLine)
    (hel : ∀ c ∈ z.cps.toList, ∀ H', Same H1 H' → ∀ R : VK, (∀ H'', Same H' H'' → R (f c) H'') → te ((wipe σ vs).set k (some (.str ⟨#[c]⟩))) H' R)
    (q : ∀ D H', H1 D = none → Same H1 H' → H' D = some (.lst (z.cps.toList.map f)) → Q (.ref D) H') (hw : ∀ v, wipe ((wipe σ vs).set k (some v)) vs = wipe σ vs := by intro _; rfl) :
    tLc (iStr ts) (gName k) tYes te vs σ H Q := hs _ ⟨z, rfl, lcI_str f hl hel q hw⟩
theorem lc_rng1 {ta : TA} (H1 : Hp) (n : Nat) (f : Nat → V) (hs : ∀ R : List V → Hp → Prop, R [.int (n : Int)] H1 → ta σ H R) (hl : n ≤ sizeLine)
    (hel : ∀ i, i < n → ∀ H', Same H1 H' → ∀ R : VK, (∀ H'', Same H' H'' → R (f i) H'') → te ((wipe σ vs).set k (some (.int (0 + (i : Int))))) H' R)
    (q : ∀ D H', H1 D = none → Same H1 H' → H' D = some (.lst ((List.range n).map f)) → Q (.ref D) H') (hw : ∀ v, wipe ((wipe σ vs).set k (some v)) vs = wipe σ vs := by intro _; rfl) :
    tLc (iRng1 ta) (gName k) tYes te vs σ H Q := by
  have h1 : (n : Int) ≤ 16777216 := by
    have := sizeLine_eq
    omega
  exact hs _ ⟨n, rfl, by omega, by omega, lcI_rng f hl hel q hw⟩
theorem lc_list (H1 : Hp) (a : Addr) (xs : List V) (f : V → V) (hs : ∀ R : VK, R (.ref a) H1 → ts σ H R) (ha : SqL K H1 a xs) (hl : xs.length ≤ sizeLine)
    (hel : ∀ x ∈ xs, ∀ H', Same H1 H' → ∀ R : VK, (∀ H'', Same H' H'' → R (f x) H'') → te ((wipe σ vs).set k (some x)) H' R)
    (q : ∀ D H', H1 D = none → Same H1 H' → H' D = some (.lst (xs.map f)) → Q (.ref D) H') (hw : ∀ v, wipe ((wipe σ vs).set k (some v)) vs = wipe σ vs := by intro _; rfl) :
    tLc (iList K ts) (gName k) tYes te vs σ H Q := hs _ ⟨a, rfl, ⟨xs, ha⟩, lcI_map f (pureIt_list ha) hl hel q hw⟩
theorem lc_listBy (H1 : Hp) (a : Addr) (xs : List V) (p : V → Bool) (f : V → V) (hs : ∀ R : VK, R (.ref a) H1 → ts σ H R) (ha : SqL K H1 a xs) (hl : xs.length ≤ sizeLine)
    (ht : ∀ x ∈ xs, ∀ H', Same H1 H' → ∀ R : Bool → Hp → Prop, (∀ H'', Same H' H'' → R (p x) H'') → tt ((wipe σ vs).set k (some x)) H' R)
    (hel : ∀ x ∈ xs, p x = true → ∀ H', Same H1 H' → ∀ R : VK, (∀ H'', Same H' H'' → R (f x) H'') → te ((wipe σ vs).set k (some x)) H' R)
    (q : ∀ D H', H1 D = none → Same H1 H' → H' D = some (.lst ((xs.filter p).map f)) → Q (.ref D) H') (hw : ∀ v, wipe ((wipe σ vs).set k (some v)) vs = wipe σ vs := by intro _; rfl) :
    tLc (iList K ts) (gName k) tt te vs σ H Q := hs _ ⟨a, rfl, ⟨xs, ha⟩, lcI_by p f (pureIt_list ha) hl ht hel q hw⟩
theorem lc_tup (H1 : Hp) (a : Addr) (xs : List V) (f : V → V) (hs : ∀ R : VK, R (.ref a) H1 → ts σ H R) (ha : SqT K H1 a xs) (hl : xs.length ≤ sizeLine)
    (hel : ∀ x ∈ xs, ∀ H', Same H1 H' → ∀ R : VK, (∀ H'', Same H' H'' → R (f x) H'') → te ((wipe σ vs).set k (some x)) H' R)
    (q : ∀ D H', H1 D = none → Same H1 H' → H' D = some (.lst (xs.map f)) → Q (.ref D) H') (hw : ∀ v, wipe ((wipe σ vs).set k (some v)) vs = wipe σ vs := by intro _; rfl) :
    tLc (iTup K ts) (gName k) tYes te vs σ H Q := hs _ ⟨a, rfl, ⟨xs, ha⟩, lcI_map f (pureIt_tup ha) hl hel q hw⟩
end
/-! ## len of anything, an item of anything -/
section
variable {X : Cx} {K : PySem.W.Frag} {H : Hp} {Q : VK}
def rLenA (K : PySem.W.Frag) : List V → Hp → VK → Prop := fun xs H Q => ∃ x n, xs = [x] ∧ LenV K x H n ∧ Q (.int n) H
theorem cl_lenA : CallR X (.builtin "len") (rLenA X.K) := call_len
/-- a list, a tuple or a text, by its items -/
inductive Row (K : PySem.W.Frag) (H : Hp) : V → List V → Prop
  | lst {a : Addr} {xs : List V} (h : SqL K H a xs) : Row K H (.ref a) xs
  | tup {a : Addr} {xs : List V} (h : SqT K H a xs) : Row K H (.ref a) xs
  | str {z : Str} (h : z.length ≤ sizeLine) : Row K H (.str z) (signsV z)
theorem w_lenA {x : V} {xs : List V} (r : Row K H x xs) (q : Q (.int xs.length) H) : rLenA K [x] H Q := by
  cases r with
  | lst h => exact ⟨_, _, rfl, .inl ⟨_, h, rfl⟩, q⟩
  | tup h => exact ⟨_, _, rfl, .inr ⟨_, h, rfl⟩, q⟩
  | @str z h =>
    refine ⟨_, z.length, rfl, ⟨h, rfl⟩, ?_⟩
    have e : (signsV z).length = z.length := by simp [signsV, PySem.Str.length]
    rw [e] at q
    exact q
theorem atI_get {α : Type} {xs : List α} {i : Int} (h0 : 0 ≤ i) (h1 : i < xs.length) : ∃ v, atI xs i = some v ∧ xs[i.toNat]? = some v := by
  have h2 : i.toNat < xs.length := by omega
  refine ⟨xs[i.toNat], ?_, List.getElem?_eq_getElem h2⟩
  unfold atI ixN
  rw [if_pos h0, if_pos h1]
  exact List.getElem?_eq_getElem h2
theorem w_ixA {x : V} {xs : List V} {i : Int} (r : Row K H x xs) (h0 : 0 ≤ i) (h1 : i < xs.length) (q : ∀ v, v ∈ xs → xs[i.toNat]? = some v → Q v H) : rIx K x (.int i) H Q := by
  cases r with
  | lst h =>
    obtain ⟨v, e, e2⟩ := atI_get h0 h1
    exact .inl ⟨_, _, _, v, rfl, rfl, h, e, q v (List.mem_of_getElem? e2) e2⟩
  | tup h =>
    obtain ⟨v, e, e2⟩ := atI_get h0 h1
    exact .inr (.inl ⟨_, _, _, v, rfl, rfl, h, e, q v (List.mem_of_getElem? e2) e2⟩)
  | @str z h =>
    have h2 : i < z.cps.toList.length := by simpa [signsV] using h1
    obtain ⟨c, e, e2⟩ := atI_get h0 h2
    have e3 : (signsV z)[i.toNat]? = some (.str ⟨#[c]⟩) := by
      unfold signsV
      rw [List.getElem?_map, e2]
      rfl
    exact .inr (.inr ⟨z, i, c, rfl, rfl, h, e, q _ (List.mem_of_getElem? e3) e3⟩)
end
theorem eqS (a b : List Nat) : decide (V.str (SX.S a) = V.str (SX.S b)) = decide (a = b) := by
  by_cases h : a = b
  · subst h
    simp
  · rw [decide_eq_false h, decide_eq_false fun e => h (SX.S_inj (by injection e))]
/-! ## texts by their codes -/
theorem sx_len (l : List Nat) : (SX.S l).length = l.length := SX.S_len l
theorem cutS_to {l : List Nat} {k : Int} (h : 0 ≤ k) : cutS (SX.S l) none (some k) = SX.S (l.take k.toNat) := (C8.cutS_slice _ _ _).trans (SX.slice_to h)
theorem cutS_from {l : List Nat} {k : Int} (h : 0 ≤ k) : cutS (SX.S l) (some k) none = SX.S (l.drop k.toNat) := (C8.cutS_slice _ _ _).trans (SX.slice_from h)

theorem dpAll_signs {K : PySem.W.Frag} {H : Hp} : ∀ cs : List Nat, DpAll K H (cs.map fun c => V.str ⟨#[c]⟩) (cs.map fun c => PyData.str ⟨#[c]⟩)
  | [] => .nil
  | c :: cs => .cons (.str _) (dpAll_signs cs)
theorem shaped_signs {cs : List Nat} (h : ∀ c ∈ cs, c < 128) : SeqAt.shaped (.list (cs.map fun c => PyData.str ⟨#[c]⟩)) = true := by
  unfold SeqAt.shaped
  rw [Bool.and_eq_true]
  constructor
  · show PyData.canLayAll0 (cs.map fun c => PyData.str ⟨#[c]⟩) = true
    induction cs with
    | nil => rfl
    | cons c cs ih =>
      show (PyData.canLay0 (.str ⟨#[c]⟩) && PyData.canLayAll0 (cs.map fun c => PyData.str ⟨#[c]⟩)) = true
      rw [ih fun d hd => h d (List.mem_cons_of_mem _ hd), Bool.and_true]
      show (#[c] : Array Nat).all (· < 0x110000) = true
      have := h c List.mem_cons_self
      simp
      omega
  · refine decide_eq_true ?_
    show PyData.depthAll (cs.map fun c => PyData.str ⟨#[c]⟩) + 1 ≤ 64
    have e : ∀ l : List Nat, PyData.depthAll (l.map fun c => PyData.str ⟨#[c]⟩) = 0 := fun l => by
      induction l with
      | nil => rfl
      | cons c l ih =>
        show max (PyData.depth (.str ⟨#[c]⟩)) (PyData.depthAll (l.map fun c => PyData.str ⟨#[c]⟩)) = 0
        rw [ih]
        rfl
    rw [e]
    decide
theorem w_neNilS {K : PySem.W.Frag} {H : Hp} {Q : VK} {c q : Addr} {cs : List Nat} (h : H c = some (.lst (cs.map fun c => V.str ⟨#[c]⟩))) (h2 : H q = some (.lst [])) (hs : ∀ c ∈ cs, c < 128) (k : Q (.bl (!decide (cs = []))) H) : rNeD K (.ref c) (.ref q) H Q := by
  refine ⟨.list (cs.map fun c => .str ⟨#[c]⟩), .list [], .lst (SqL.of h) (dpAll_signs cs), .lst (SqL.of h2) .nil, shaped_signs hs, by decide, ?_⟩
  have e : PyData.eqv (.list (cs.map fun c => PyData.str ⟨#[c]⟩)) (.list []) = decide (cs = []) := by
    cases cs with
    | nil => rfl
    | cons n r => rfl
  rw [e]
  exact k
theorem addlen {a b : Str} (ha : a.length ≤ 1000000) (hb : b.length ≤ 1000000) : a.length + b.length ≤ sizeLine := by
  have := sizeLine_eq
  omega
theorem w_mulS {H : Hp} {Q : VK} {z : Str} {n : Int} (h : 2 ≤ n ∧ n ≤ 100000 ∧ 0 < z.length ∧ z.length * n.toNat ≤ sizeLine) (q : Q (.str ⟨(List.replicate n.toNat z.cps).foldl (· ++ ·) #[]⟩) H) : rMulS (.str z) (.int n) H Q := ⟨z, n, rfl, rfl, h, q⟩
/-- data equal to itself -/
theorem w_eqD {K : PySem.W.Frag} {H : Hp} {Q : VK} {x y : V} {d e : PyData} {b : Bool} (hd : Dp K H x d) (he : Dp K H y e) (sd : SeqAt.shaped d = true) (se : SeqAt.shaped e = true) (h : PyData.eqv d e = b) (q : Q (.bl b) H) : rEqD K x y H Q := ⟨d, e, hd, he, sd, se, by rw [h]; exact q⟩
end LB
set_option Elab.async false
set_option linter.all false
set_option maxRecDepth 100000
set_option maxHeartbeats 4000000
namespace PySem
/-- enumerate(v) begins, v told by how its iterator begins -/
theorem lb_meets_enum {u : Value} {o : Obj} {G : Heap → Prop} (B : Begins u o G) :
    Meets (Builtin.«enumerate.__new__» ⟨[.type "enumerate", u], []⟩) (fun _ R sh => G sh.heap ∧
      R (.ok (.ret (.ref (sh.heap.push o).objs.size))) { sh with heap := (sh.heap.push o).push { cls := .type "enumerate", data := .fields #[.none, .bool false, .ref sh.heap.objs.size, rawInt 0, .none, .none] } }) :=
  .of_wp fun prog w A R sh hyp => by
    obtain ⟨hp, g, d, tk, os⟩ := sh
    obtain ⟨g1, hyp⟩ := hyp
    have hsub := sub_enumerate
    have begin_ : ∀ {A' : Around} {E : Value → Shared → Prop} {Q : Value → Shared → Prop}, Q (.ref hp.objs.size) ⟨hp.push o, g, d, tk, os⟩ → wpAny (model prog w) A' (pyIter u) Q E ⟨hp, g, d, tk, os⟩ :=
      fun y => B.iter prog w _ _ ⟨hp, g, d, tk, os⟩ _ g1 y
    wp_walk using begin_
    refine wpAny_stack_any fun _ => wpAny_pure ?_
    split
    · rename_i c _ _ _ _ _
      cases (c == Value.type "enumerate") <;> wp_walk using begin_ <;> exact ⟨_, rfl, hyp⟩
    · wp_walk using begin_
      exact ⟨_, rfl, hyp⟩
section
variable {prog : Program} {w : World} {A : Around} {E : Value → Shared → Prop} {s : Shared}
theorem lb_enum_begins {u : Value} {o : Obj} {G : Heap → Prop} {Q : Value → Shared → Prop} (B : Begins u o G) (g1 : G s.heap)
    (k : ∀ h', IsEnum h' (s.heap.objs.size + 1) s.heap.objs.size 0 .none → h'.get? s.heap.objs.size = some o → h'.objs.size = s.heap.objs.size + 2 →
      (∀ b p, s.heap.get? b = some p → h'.get? b = some p) → Q (.ref (s.heap.objs.size + 1)) { s with heap := h' }) :
    wpAny (model prog w) A (call (.type "enumerate") [u]) Q E s := by
  refine callType_new F.called_enumerate (by decide) (F.typeCall_enumerate_1 _) (F.newCall_enumerate_1 _) (fun ob => F.args_object_init_2 ob _) F.entry_enumerate_new (lb_meets_enum B) ⟨g1, ?_⟩
  have sz : (s.heap.push o).objs.size = s.heap.objs.size + 1 := Heap.size_push ..
  show _ ∧ _
  rw [sz]
  have en : IsEnum ((s.heap.push o).push { cls := .type "enumerate", data := .fields #[.none, .bool false, .ref s.heap.objs.size, rawInt 0, .none, .none] }) (s.heap.objs.size + 1) s.heap.objs.size 0 .none := by
    have y := Heap.get?_push_size (s.heap.push o) (o := { cls := .type "enumerate", data := .fields #[.none, .bool false, .ref s.heap.objs.size, rawInt 0, .none, .none] }) rfl
    rw [sz] at y
    exact y
  exact ⟨⟨_, en, rfl⟩, k _ en (Heap.get?_push_of_some _ (Heap.get?_push_size _ B.free)) (by rw [Heap.size_push, sz]) fun b p x => Heap.get?_push_of_some _ (Heap.get?_push_of_some _ x)⟩
end
end PySem
namespace LB
open PySem PySem.Spec PyProof.Rows L2
/-! ## enumerate over a text, over a tuple -/
/-- the items xs one by one, each in a new pair with its number; S: what holds of the heap at each turn -/
def Itw (S : Hp → Prop) (xs : List V) : It where
  go := fun i H => S H ∧ i < xs.length
  yld := fun i H v H' => ∃ T x, v = .ref T ∧ H T = none ∧ xs[i]? = some x ∧ H' = upd H T (.tup [.int (i : Nat), x])
  stop := fun i H => S H ∧ xs.length ≤ i
theorem turn_enumW {P : Program} {w : World} {K : PySem.W.Frag} {elts : List Expr} {kk : Nat} {tpos : Pos} {xs : List V} {S : Hp → Prop} {e it : Addr} {fpD : List Addr} {PD : Nat → Value → Prop} {St : Nat → Heap → Prop} {Ex : Heap → Prop}
    (D : ∀ A : Around, A.handled = none → Draws P w A it fpD xs.length PD (fun i h => St i h ∧ Ex h))
    (hP : ∀ i u, PD i u → ∃ x, xs[i]? = some x ∧ RelV x u)
    (hS : ∀ (X : Cx) (pins : List (Addr × Obj)) (σ : L2.St) (H : Hp) (s : Shared), X.K = K → Inv X pins σ H s → S H → Ex s.heap)
    (hSt : ∀ i (h h' : Heap), St i h → (∀ o, h.get? it = some o → h'.get? it = some o) → St i h')
    (hobj : ∀ i (h : Heap), St i h → ∃ o, h.get? it = some o ∧ ∀ v, o.data ≠ .cell v) (hne : e ≠ it) (hef : e ∉ fpD) :
    Turn P w K (.Tuple elts kk tpos) (Itw S xs) [e, it] e (fun i h => (∃ old, IsEnum h e it ((i : Nat) : Int) old) ∧ St i h ∧ i ≤ xs.length) where
  mem := by simp
  obj := fun i h st b hb => by
    obtain ⟨⟨old, he⟩, hs, _⟩ := st
    rcases (by simpa using hb : b = e ∨ b = it) with z | z
    · exact ⟨_, by rw [z]; exact he, fun v q => by cases q⟩
    · rw [z]
      exact hobj i h hs
  keep := fun i h h' st k => by
    obtain ⟨⟨old, he⟩, hs, hl⟩ := st
    exact ⟨⟨old, k e (by simp) _ he⟩, hSt i h h' hs (k it (by simp)), hl⟩
  item := by
    intro X eP ew eK hc i pins s σ H E I hf st hg
    subst eP ew
    obtain ⟨⟨old, he⟩, hs, hl⟩ := st
    obtain ⟨hSH, hlt⟩ := hg
    have hh : X.A.handled = none := I.ok.hd hc
    have Di := D X.A.in1 hh
    have lte : e < s.heap.objs.size := Heap.lt_size he
    have lti : it < s.heap.objs.size := by
      obtain ⟨o, y, _⟩ := hobj i _ hs
      exact Heap.lt_size y
    refine wpAny_pyNext_enum_itemD Di he ⟨hs, hS X pins σ H s eK I hSH⟩ hlt hne hef fun y h' tk hy hout hs' hT hsz hk => ?_
    obtain ⟨x, hx, rx⟩ := hP i y hy
    refine ⟨_, rfl, wpAny_letOwnedTupleGo_enum (s := { s with heap := h', toks := tk + 1 }) hout fun h2 he2 sb => ?_⟩
    have hT2 : h2.get? s.heap.objs.size = some { cls := .type "tuple", data := .seq #[.int i tk, y] } := (sb.2 _ (Nat.ne_of_gt lte)).trans hT
    have ok : ObjOk X.prog X.w (upd H s.heap.objs.size (.tup [.int (i : Nat), x])) h2 s.heap.objs.size (.tup [.int (i : Nat), x]) :=
      ⟨by show 2 ≤ sizeLine; rw [sizeLine_eq]; decide, [.int i tk, y], .cons ⟨tk, rfl⟩ (.cons rx .nil), ⟨_, hT2, rfl, _, rfl⟩⟩
    have I2 : Inv X pins σ (upd H s.heap.objs.size (.tup [.int (i : Nat), x])) { s with heap := h2, toks := tk + 1 } :=
      I.turnedNew (ch := [e, it]) (fun b ob hb q => by
        have b1 : b ≠ e := fun z => hb (by rw [z]; simp)
        have b2 : b ≠ it := fun z => hb (by rw [z]; simp)
        exact (sb.2 b b1).trans (hk b ob b1 b2 q)) hf (Nat.le_refl _) ok
    refine ⟨.ref s.heap.objs.size, _, I2, rfl, ⟨_, x, rfl, I.hok.fresh (Nat.le_refl _), hx, rfl⟩, ⟨⟨y, ?_⟩, hSt _ _ _ hs'.1 fun o q => (sb.2 it (Ne.symm hne)).trans q, hlt⟩, fun b hb => ?_⟩
    · rw [show ((i + 1 : Nat) : Int) = (i : Int) + 1 by omega]
      exact he2
    · have lb : b < s.heap.objs.size := by
        rcases (by simpa using hb : b = e ∨ b = it) with z | z <;> rw [z] <;> assumption
      rw [upd_ne (Nat.ne_of_lt lb)]
      exact (hf b hb).1
  done := by
    intro X eP ew eK hc i pins s σ H E I hf st hg
    subst eP ew
    obtain ⟨⟨old, he⟩, hs, hl⟩ := st
    obtain ⟨hSH, hge⟩ := hg
    have ei : i = xs.length := Nat.le_antisymm hl hge
    subst ei
    obtain ⟨f0, f1, f2, f3, f4, f5⟩ := hf it (by simp)
    exact wpAny_pyNext_enum_endD (D X.A.in1 (I.ok.hd hc)) he ⟨hs, hS X pins σ H s eK I hSH⟩ fun h' eb => ⟨rfl, I.turned (t' := s.toks) (fun b o hb q => eb b o hb q) f0 f1 f3 f4 f5⟩
  self := fun A i s Q E st h => by
    obtain ⟨⟨_, he⟩, _⟩ := st
    exact wpAny_pyIter_enum he h
def iEnumS (ta : TA) : TI := fun σ H R => ta σ H fun vs H1 => ∃ z, vs = [.str z] ∧ R (Itw (fun _ => True) (signsV z)) H1
theorem signs_get {z : Str} {i c : Nat} (h : z.cps[i]? = some c) : (signsV z)[i]? = some (.str ⟨#[c]⟩) := by
  unfold signsV
  rw [List.getElem?_map, Array.getElem?_toList, h]
  rfl
theorem pi_enumS {X : Cx} {e : Expr} {ta : TA} {p pos tpos : Pos} {elts : List Expr} {kk : Nat} (hg : Gl X "enumerate") (hm : X.mg "enumerate" = none) (ha : PA X [e] ta)
    (hs : starEach [e] X.env = [(false, eval e X.env)] := by rfl) : PI X (.Tuple elts kk tpos) (.Call (.Name "enumerate" p) [e] [] pos) (iEnumS ta) := by
  refine ⟨fun pins s σ H R I h => ?_⟩
  refine Call_ (ld_blt I hg hm boot_enumerate (PyProof.Rows.callWith_type1 (thn (ha.run pos pins s σ H _ I h) fun us s1 ⟨vs, H1, I1, r1, z, ez, q⟩ => ?_) hs rfl))
  subst ez
  cases r1 with
  | cons r rr =>
    cases rr
    obtain ⟨t, rfl⟩ := r
    refine call_enumerate_str fun h' he hit hsz hk => wpAny_pyIter_enum he ?_
    have I2 : Inv X pins σ H1 { s1 with heap := h' } := I1.kept (t' := s1.toks) hk
    have len : (signsV z).length = z.cps.size := by simp [signsV]
    refine ⟨s1.heap.objs.size + 1, [s1.heap.objs.size + 1, s1.heap.objs.size], _, _, H1, rfl, I2, turn_enumW (xs := signsV z) (fpD := [s1.heap.objs.size]) (PD := fun i v => ∃ c u, z.cps[i]? = some c ∧ v = .str ⟨#[c]⟩ u)
      (St := fun i h => h.IsStrIter s1.heap.objs.size (strIterType z) z t i) (Ex := fun _ => True) (fun A hA => ?_) (fun i u hu => ?_) (fun _ _ _ _ _ _ _ _ => trivial) (fun i h h2 st k => ?_) (fun i h st => ?_) (Nat.succ_ne_self _) ?_, ⟨⟨.none, he⟩, hit, Nat.zero_le _⟩, fun b hb => ?_, q⟩
    · rw [len]
      have D := Draws.text (prog := X.prog) (w := X.w) hA s1.heap.objs.size z t
      exact ⟨fun i h st => D.live i h st.1, fun i h h' st k => ⟨D.frame i h h' st.1 k, trivial⟩, fun i s Q E hi st hQ => D.item i s Q E hi st.1 fun x h' tk a b c => hQ x h' tk a ⟨b, trivial⟩ c, fun s Q E st hE => D.done s Q E st.1 hE⟩
    · obtain ⟨c, u', hc, rfl⟩ := hu
      exact ⟨_, signs_get hc, ⟨u', rfl⟩⟩
    · obtain ⟨o, ho, r⟩ := st
      exact ⟨o, k o ho, r⟩
    · obtain ⟨o, ho, _, hd⟩ := st
      exact ⟨o, ho, fun v y => by rw [hd] at y; cases y⟩
    · simp
    · have hle : s1.heap.objs.size ≤ b := by
        rcases (by simpa using hb : b = s1.heap.objs.size + 1 ∨ b = s1.heap.objs.size) with y | y <;> rw [y]
        · exact Nat.le_succ _
        · exact Nat.le_refl _
      exact I1.fpOk hle (I1.hok.fresh hle)
/-- .. over a tuple -/
def iEnumT (K : PySem.W.Frag) (ta : TA) : TI := fun σ H R => ta σ H fun vs H1 => ∃ a xs, vs = [.ref a] ∧ SqT K H1 a xs ∧ R (Itw (fun H' => SqT K H' a xs) xs) H1
theorem pi_enumT {X : Cx} {e : Expr} {ta : TA} {p pos tpos : Pos} {elts : List Expr} {kk : Nat} (hg : Gl X "enumerate") (hm : X.mg "enumerate" = none) (ha : PA X [e] ta)
    (hs : starEach [e] X.env = [(false, eval e X.env)] := by rfl) : PI X (.Tuple elts kk tpos) (.Call (.Name "enumerate" p) [e] [] pos) (iEnumT X.K ta) := by
  refine ⟨fun pins s σ H R I h => ?_⟩
  refine Call_ (ld_blt I hg hm boot_enumerate (PyProof.Rows.callWith_type1 (thn (ha.run pos pins s σ H _ I h) fun us s1 ⟨vs, H1, I1, r1, a, xs, ez, hq, q⟩ => ?_) hs rfl))
  subst ez
  cases r1 with
  | cons r rr =>
    cases rr
    cases r
    obtain ⟨its, rv, pT, hz⟩ := I1.tuple hq
    refine lb_enum_begins (begins_tuple a its.toArray) pT fun h' he hob hsz hk => wpAny_pyIter_enum he ?_
    have hit : h'.IsTupleIter s1.heap.objs.size a 0 := ⟨_, hob, rfl, rfl⟩
    have I2 : Inv X pins σ H1 { s1 with heap := h' } := I1.kept (t' := s1.toks) hk
    have len : xs.length = its.toArray.size := by rw [rv.length]; simp
    have lta : a < s1.heap.objs.size := by
      obtain ⟨o, y, _⟩ := pT
      exact Heap.lt_size y
    refine ⟨s1.heap.objs.size + 1, [s1.heap.objs.size + 1, s1.heap.objs.size], _, _, H1, rfl, I2, turn_enumW (xs := xs) (fpD := [s1.heap.objs.size, a]) (PD := fun i u => ∃ x, xs[i]? = some x ∧ RelV x u)
      (St := fun i h => h.IsTupleIter s1.heap.objs.size a i) (Ex := fun h => ∃ ys : List Value, Vals xs ys ∧ h.IsTuple a ys.toArray) (fun A hA => ?_) (fun i u hu => hu) (fun X' pins' σ' H' s' eK I' hS' => ?_) (fun i h h2 st k => ?_) (fun i h st => ?_) (Nat.succ_ne_self _) ?_, ⟨⟨.none, he⟩, hit, Nat.zero_le _⟩, fun b hb => ?_, q⟩
    · have D := fun ys : List Value => Draws.tuple (prog := X.prog) (w := X.w) hA s1.heap.objs.size a (Nat.ne_of_lt lta) ys.toArray
      have sz : ∀ {ys : List Value}, Vals xs ys → ys.toArray.size = xs.length := fun r => by
        rw [r.length]
        simp
      refine ⟨fun i h st => ?_, fun i h h' st k => ?_, fun i s Q E hi st hQ => ?_, fun s Q E st hE => ?_⟩
      · obtain ⟨t1, ys, r, t2⟩ := st
        exact (D ys).live i h ⟨t1, t2⟩
      · obtain ⟨t1, ys, r, t2⟩ := st
        obtain ⟨t1', t2'⟩ := (D ys).frame i h h' ⟨t1, t2⟩ k
        exact ⟨t1', ys, r, t2'⟩
      · obtain ⟨t1, ys, r, t2⟩ := st
        refine (D ys).item i s Q E (by rw [sz r]; exact hi) ⟨t1, t2⟩ fun u h' tk a b c => hQ u h' tk ?_ ⟨b.1, ys, r, b.2⟩ c
        obtain ⟨u2, h2, r2⟩ := r.get (List.getElem?_eq_getElem hi)
        have hu : ys[i]? = some u := by
          have a' : ys.toArray[i]? = some u := a
          simpa using a'
        rw [hu] at h2
        cases h2
        exact ⟨_, List.getElem?_eq_getElem hi, r2⟩
      · obtain ⟨t1, ys, r, t2⟩ := st
        refine (D ys).done s Q E ?_ hE
        rw [sz r]
        exact ⟨t1, t2⟩
    · obtain ⟨ys, r, pt, _⟩ := I'.tuple (eK ▸ hS')
      exact ⟨ys, r, pt⟩
    · exact st.at fun o y => k o y
    · obtain ⟨o, ho, _, hd⟩ := st
      exact ⟨o, ho, fun v y => by rw [hd] at y; cases y⟩
    · intro y
      have y2 : s1.heap.objs.size + 1 = a := by simpa using y
      exact absurd lta (by rw [← y2]; exact Nat.not_lt.mpr (Nat.le_succ _))
    · have hle : s1.heap.objs.size ≤ b := by
        rcases (by simpa using hb : b = s1.heap.objs.size + 1 ∨ b = s1.heap.objs.size) with y | y <;> rw [y]
        · exact Nat.le_succ _
        · exact Nat.le_refl _
      exact I1.fpOk hle (I1.hok.fresh hle)
/-! ## what stands behind the top: facts of any kind, defs at any address -/
/-- a def of the text, by its address -/
structure GD where
  ad : PySem.W.Frag → Addr
  nm : Str
  qn : Str
  st : Stmt
  dv : List He.Dv := []
def fnA (K : PySem.W.Frag) (a : Addr) : He.FnW := match K.lookup a with
  | some ⟨_, _, .func z, _⟩ => some (z.name, z.qualname, z.params, z.body, z.scope, z.globals, z.closure, z.builtins)
  | _ => none
def GD.val (d : GD) : He.FnW := some (d.nm, d.qn, defArgs d.st, .stmts (defBody d.st), defScope d.st, mainGlobals, [], builtinsNs)
def GD.dvs (K : PySem.W.Frag) (d : GD) : List V := d.dv.map (He.Dv.v K)
def GD.ok (K : PySem.W.Frag) (d : GD) : Bool := PySem.W.keepIn K (.ref (d.ad K)) && (match K.lookup (d.ad K) with
  | some ⟨_, _, .func z, _⟩ => PySem.W.codeIn K z.code d.qn && (He.dflB K z.defaults (d.dvs K) && He.kwdB K z.kwdefaults [])
  | _ => false)
/-- the def as it stands -/
def FA (K : PySem.W.Frag) (nm qn : Str) (st : Stmt) (dvs : List V) (f : Addr) : Prop := ∃ fd : FuncData, FunD K nm qn (defArgs st) (defBody st) (defScope st) dvs [] f fd
theorem GD.fa {K : PySem.W.Frag} {d : GD} (e : fnA K (d.ad K) = d.val) (c : d.ok K = true) : FA K d.nm d.qn d.st (d.dvs K) (d.ad K) := by
  obtain ⟨kp, c2⟩ := He.ba c
  unfold fnA at e
  cases q : K.lookup (d.ad K) with
  | none =>
    rw [q] at c2
    cases c2
  | some o =>
    obtain ⟨oc, od, dt, osl⟩ := o
    rw [q] at c2 e
    cases dt with
    | func z =>
      obtain ⟨n1, n2, n3, n4, n5, n6, n7, n8, n9, n10, n11, n12, n13, n14, n15⟩ := z
      have e2 : (some (n1, n2, n3, n4, n5, n6, n7, n15) : He.FnW) = some (d.nm, d.qn, defArgs d.st, .stmts (defBody d.st), defScope d.st, mainGlobals, [], builtinsNs) := e
      simp only [Option.some.injEq, Prod.mk.injEq] at e2
      obtain ⟨h1, h2, h3, h4, h5, h6, h7, h8⟩ := e2
      subst h1 h2 h3 h4 h5 h6 h7 h8
      obtain ⟨k1, k2⟩ := He.ba (show (PySem.W.codeIn K n13 d.qn && (He.dflB K n8 (d.dvs K) && He.kwdB K n9 [])) = true from c2)
      obtain ⟨k3, k4⟩ := He.ba k2
      exact ⟨_, ⟨oc, od, n8, n9, n10, n11, n12, n13, n14, osl, rfl, q, k1, He.dflB_ok k3, He.kwdB_ok k4⟩, kp⟩
    | _ => cases c2
abbrev GV : Type := Bool × List He.FnW
def gobs (fs : List (PySem.W.Frag → Bool)) (ds : List GD) (K : PySem.W.Frag) : GV := (fs.all (fun f => f K) && ds.all fun d => d.ok K, ds.map fun d => fnA K (d.ad K))
def gval (ds : List GD) : GV := (true, ds.map GD.val)
def GSays (fs : List (PySem.W.Frag → Bool)) (ds : List GD) (K : PySem.W.Frag) : Prop := gobs fs ds K = gval ds
def gobsG (n : Nat) (fs : List (PySem.W.Frag → Bool)) (ds : List GD) (g : Addr → Option Obj) : GV := gobs fs ds (He.frG g (He.asD g n))
def ghook (n : Nat) (fs : List (PySem.W.Frag → Bool)) (ds : List GD) : PySem.W.Hook where
  α := GV
  val := fun _ => gval ds
  obs := fun sh => gobsG n fs ds sh.heap.get?
  says := fun _ hp => ∃ K : PySem.W.Frag, K.In hp ∧ GSays fs ds K
  of := fun _ _ q => ⟨_, He.frG_in, q⟩
  keeps := fun _ _ _ ⟨K, i, c⟩ q => ⟨K, PySem.W.Frag.In.keeps i q, c⟩
theorem gobsG_eq {n : Nat} {fs : List (PySem.W.Frag → Bool)} {ds : List GD} {g : Addr → Option Obj} {sh : Shared} (h : ∀ a, g a = sh.heap.get? a) : gobsG n fs ds g = (ghook n fs ds).obs sh := by
  obtain rfl : g = sh.heap.get? := funext h
  rfl
section
variable {fs : List (PySem.W.Frag → Bool)} {ds : List GD} {K : PySem.W.Frag}
theorem GSays.fact (c : GSays fs ds K) (i : Nat) {f : PySem.W.Frag → Bool} (h : fs[i]? = some f := by rfl) : f K = true := by
  have e : (fs.all (fun f => f K) && ds.all fun d => d.ok K) = true := congrArg Prod.fst c
  exact List.all_eq_true.mp (He.ba e).1 f (List.mem_of_getElem? h)
theorem GSays.at_ (c : GSays fs ds K) (i : Nat) {d : GD} (h : ds[i]? = some d := by rfl) : FA K d.nm d.qn d.st (d.dvs K) (d.ad K) := by
  have e : (fs.all (fun f => f K) && ds.all fun d => d.ok K) = true := congrArg Prod.fst c
  have e2 : (ds.map fun d => fnA K (d.ad K))[i]? = (ds.map GD.val)[i]? := by rw [show (ds.map fun d => fnA K (d.ad K)) = ds.map GD.val from congrArg Prod.snd c]
  rw [List.getElem?_map, List.getElem?_map, h] at e2
  exact GD.fa (Option.some.inj e2) (List.all_eq_true.mp (He.ba e).2 d (List.mem_of_getElem? h))
end

/-! ## calls: one record a function, wherever it stands; dvs fill up what is not written -/
section
variable (P : Program) (w : World) (K : PySem.W.Frag) (mg : Str → Option Value) (base : Heap)
structure Fr (k : Nat) (f : Addr) (ps : List Str) (dvs : List V) (sp : Sp) : Prop where
  ex : ∃ (fd : FuncData) (ds : List Value), FnOk P w K mg base CX0 k f fd ps sp ∧ Binds K fd ps ds ∧ Vals dvs ds
end
section
variable {P : Program} {w : World} {K : PySem.W.Frag} {mg : Str → Option Value} {base : Heap} {x q : Str} {st : Stmt} {ps N : List Str} {sp : Sp} {k : Nat} {f : Addr} {dvs : List V}
/-- what a body's walk must show -/
def BodyOk (P : Program) (w : World) (K : PySem.W.Frag) (mg : Str → Option Value) (base : Heap) (k : Nat) (q : Str) (st : Stmt) (N : List Str) (sp : Sp) : Prop :=
  ∀ (f : Addr) (cdv : Value) (A : Around) (outer : List Env) (s : Shared) (H : Hp) (vs : List V) (Q : VK) (E : XK), Room k (A.deeper (envOfC q (defScope st) s.heap.objs.size f cdv)) → sp vs H Q E →
    ∃ t, PSs (cxOf CX0 P w K mg base N q (defScope st) f cdv A outer s H E) (defBody st) t ∧ t { nx := fun _ H' => Q .non H', rt := Q } (start N vs) H
/-- no defaults -/
theorem fr_of0 (F : FA K x q st [] f) (hb : ∀ (kV doc pm : Value) (an : Option Addr) (cdv ct : Value) (us : List Value), us.length = ps.length → bindArgs (PySem.W.fnOf x q (defArgs st) (defBody st) (defScope st) .none kV doc pm an cdv ct) ⟨us, []⟩ = pure (ps.zip us))
    (S : FnScope N ps (defScope st)) (len : ∀ vs H Q E, sp vs H Q E → vs.length = ps.length) (hbody : BodyOk P w K mg base k q st N sp) : Fr P w K mg base (k + 1) f ps [] sp := by
  obtain ⟨fd, F⟩ := F
  exact ⟨fd, [], F.ok S len fun cdv A outer s H vs Q E hr h => hbody f cdv A outer s H vs Q E hr h, F.bindsN hb, .nil⟩
/-- the defaults behind the first j fill up: n values are written -/
theorem fr_ofD (n j : Nat) (F : FA K x q st dvs f) (hd : dvs ≠ []) (hn : n + (dvs.length - j) = ps.length)
    (hb : ∀ (T : Addr) (kV doc pm : Value) (an : Option Addr) (cdv ct : Value) (us its : List Value), us.length = n → its.length = dvs.length →
      ∃ k, bindArgs (PySem.W.fnOf x q (defArgs st) (defBody st) (defScope st) (.ref T) kV doc pm an cdv ct) ⟨us, []⟩ = seqItems? (.ref T) >>= k ∧ k (some its.toArray) = pure (ps.zip (us ++ its.drop j)))
    (S : FnScope N ps (defScope st)) (len : ∀ vs H Q E, sp vs H Q E → vs.length = ps.length) (hbody : BodyOk P w K mg base k q st N sp) : Fr P w K mg base (k + 1) f ps (dvs.drop j) sp := by
  obtain ⟨fd, F⟩ := F
  obtain ⟨ds, v, b⟩ := F.binds1 n j hd hn hb
  exact ⟨fd, ds, F.ok S len fun cdv A outer s H vs Q E hr h => hbody f cdv A outer s H vs Q E hr h, b, v⟩
end
section
variable {X : Cx} {k j : Nat} {f C g pr : Addr} {ps : List Str} {dvs : List V} {sp : Sp} {x m : Str} {p pos apos : Pos} {e o : Expr} {es : List Expr} {ta : TE} {t : TA}
theorem pe_f (c : Fr X.prog X.w X.K X.mg X.base k f ps dvs sp) (hm : X.mg x = some (.ref f)) (kp : PySem.W.keepIn X.K (.ref f) = true) (hr : Room j X.A) (hk : k ≤ j) (hg : Gl X x) (ha : PA X (e :: es) t)
    (hdb : (x == ("__debug__" : Str)) = false := by decide) (he : starEach (e :: es) X.env = (false, eval e X.env) :: starEach es X.env := by rfl) (hpl : (backTo pos (starEach es X.env)).any (·.1) = false := by rfl) :
    PE X (.Call (.Name x p) (e :: es) [] pos) (tCall sp dvs E0 t) := by
  obtain ⟨fd, ds, ok, b, v⟩ := c.ex
  exact pe_call ok (hr.mono hk) hg hm kp b v pass0 ha hdb he hpl
theorem pe_mk (c : Fr X.prog X.w X.K X.mg X.base k f ps dvs sp) (M : Mk X.K C f) (hm : X.mg x = some (.ref C)) (hr : Room j X.A) (hk : k + 1 ≤ j) (hg : Gl X x) (ha : PA X (e :: es) t)
    (hdb : (x == ("__debug__" : Str)) = false := by decide) (he : starEach (e :: es) X.env = (false, eval e X.env) :: starEach es X.env := by rfl) (hpl : (backTo pos (starEach es X.env)).any (·.1) = false := by rfl) :
    PE X (.Call (.Name x p) (e :: es) [] pos) (tMake C sp dvs E0 t) := by
  obtain ⟨fd, ds, ok, b, v⟩ := c.ex
  exact pe_make M ok (hr.mono hk) hg hm b v pass0 ha hdb he hpl
theorem pe_mk0 (c : Fr X.prog X.w X.K X.mg X.base k f ps dvs sp) (M : Mk X.K C f) (hm : X.mg x = some (.ref C)) (hr : Room j X.A) (hk : k + 1 ≤ j) (hg : Gl X x)
    (hdb : (x == ("__debug__" : Str)) = false := by decide) : PE X (.Call (.Name x p) [] [] pos) (tMake C sp dvs E0 tNil) := by
  obtain ⟨fd, ds, ok, b, v⟩ := c.ex
  exact pe_make0 M ok (hr.mono hk) hg hm b v pass0 hdb
theorem pe_mt {pl : Sem Bool} (c : Fr X.prog X.w X.K X.mg X.base k f ps dvs sp) (cl : Cls X.K C) (hm : Meth X.K C m f) (hr : Room j X.A) (hk : k ≤ j) (he : PE X o ta) (ha : PA X (e :: es) t)
    (hst : starEach (e :: es) X.env = (false, eval e X.env) :: starEach es X.env := by rfl) (hpl : (backTo pos (starEach es X.env)).any (·.1) = false := by rfl)
    (ht : eval (.Call (.Attribute o m apos) (e :: es) [] pos) X.env = (do
      let ob ← eval o X.env
      standAt apos.atName
      let (fn, first) ← holding [ob] (getMethod ob m pl)
      callWith pos fn first (backTo pos (starEach (e :: es) X.env)) (backToKw pos (keywordEach [] X.env))) := by rfl) :
    PE X (.Call (.Attribute o m apos) (e :: es) [] pos) (tMeth C m sp dvs E0 ta t) := by
  obtain ⟨fd, ds, ok, b, v⟩ := c.ex
  exact pe_meth he cl hm ok (hr.mono hk) b v pass0 ha hst hpl ht
theorem pe_mt0 {pl : Sem Bool} (c : Fr X.prog X.w X.K X.mg X.base k f ps dvs sp) (cl : Cls X.K C) (hm : Meth X.K C m f) (hr : Room j X.A) (hk : k ≤ j) (he : PE X o ta)
    (ht : eval (.Call (.Attribute o m apos) [] [] pos) X.env = (do
      let ob ← eval o X.env
      standAt apos.atName
      let (fn, first) ← holding [ob] (getMethod ob m pl)
      callWith pos fn first (backTo pos (starEach [] X.env)) (backToKw pos (keywordEach [] X.env))) := by rfl) :
    PE X (.Call (.Attribute o m apos) [] [] pos) (tMeth C m sp dvs E0 ta tNil) := by
  obtain ⟨fd, ds, ok, b, v⟩ := c.ex
  exact pe_meth0 he cl hm ok (hr.mono hk) b v pass0 ht
theorem pe_pr (c : Fr X.prog X.w X.K X.mg X.base k g ps dvs sp) (cl : Cls X.K C) (hp : PropOf X.K C m pr g) (hr : Room j X.A) (hk : k + 1 ≤ j) (he : PE X e ta)
    (hab : attributeBase e m X.env (eval e X.env) = eval e X.env := by rfl) : PE X (.Attribute e m pos) (tProp C sp dvs E0 ta) := by
  obtain ⟨fd, ds, ok, b, v⟩ := c.ex
  exact pe_prop he cl hp ok (hr.mono hk) b v pass0 hab
end
/-! ## one of several rules, chosen by the reading -/
section
variable {X : Cx} {ι : Type}
theorem pe_some {e : Expr} {t : ι → TE} (h : ∀ i, PE X e (t i)) : PE X e (fun σ H Q => ∃ i, t i σ H Q) := ⟨fun pins s σ H Q I ⟨i, q⟩ => (h i).run pins s σ H Q I q⟩
theorem pi_some {tg e : Expr} {t : ι → TI} (h : ∀ i, PI X tg e (t i)) : PI X tg e (fun σ H R => ∃ i, t i σ H R) := ⟨fun pins s σ H R I ⟨i, q⟩ => (h i).run pins s σ H R I q⟩
def tAny (t : ι → TE) : TE := fun σ H Q => ∃ i, t i σ H Q
def iAny (t : ι → TI) : TI := fun σ H R => ∃ i, t i σ H R
theorem pe_any {e : Expr} {t : ι → TE} (h : ∀ i, PE X e (t i)) : PE X e (tAny t) := pe_some h
theorem pi_any {tg e : Expr} {t : ι → TI} (h : ∀ i, PI X tg e (t i)) : PI X tg e (iAny t) := pi_some h
end
/-! ## list(text); an instance called; str(instance) -/
section
variable {X : Cx}
def rListS : List V → Hp → VK → Prop := fun xs H Q => ∃ z, xs = [.str z] ∧ z.length ≤ sizeLine ∧ ∀ l, H l = none → Q (.ref l) (upd H l (.lst (signsV z)))
theorem cl_listS (hc : X.calm = true) : CallR X (.type "list") rListS := by
  intro pins s σ H xs us Q I r h
  obtain ⟨z, rfl, hz, q⟩ := h
  obtain ⟨u, rfl, t, rfl⟩ := vals1 r
  refine PySem.call_list_str (I.ok.hd hc) z t (fun h' tk acc c hk hS hacc => ?_) hz
  have len : (signsV z).length = z.cps.size := by simp [signsV]
  refine ⟨.ref s.heap.objs.size, upd H s.heap.objs.size (.lst (signsV z)), I.laid hk (Nat.le_refl _) (show ObjOk X.prog X.w _ _ _ (.lst (signsV z)) from ⟨by rw [len]; exact hz, acc.toList, c, ?_, hS⟩), rfl, q _ (I.hok.fresh (Nat.le_refl _))⟩
  refine vals_of_at (by rw [len]; simp [hacc.1]) fun j x w h1 h2 => ?_
  obtain ⟨c', u', hc', rfl⟩ := hacc.2 j w (by rw [← Array.getElem?_toList]; exact h2)
  rw [signs_get hc'] at h1
  cases h1
  exact ⟨u', rfl⟩
end
/-- C's instances are called by the def at f -/
structure CallOf (K : PySem.W.Frag) (C f : Addr) : Prop where
  at_ : PySem.W.findIn K (.ref C) "__call__" = some (some (.ref f))
  fn : PySem.W.isFn K (.ref f) = true
  fi : PySem.W.fnIn K f = true
/-- str(o) of C's instances is the def at f -/
structure StrBy (K : PySem.W.Frag) (C f : Addr) : Prop where
  at_ : PySem.W.findIn K (.ref C) "__str__" = some (some (.ref f))
  fn : PySem.W.isFn K (.ref f) = true
section
open PySem.W PySem.Calls
variable {M : Model} {A : Around} {E : Value → Shared → Prop} {s : Shared} {pos : Pos} {x C : Addr} {first : List Value} {Q : Value → Shared → Prop}
theorem inst_callWith {args : List (Bool × Sem Value)} {kws : List (Option Str × Sem Value)} (hp : (args.any (·.1) || kws.any (·.1.isNone)) = false)
    (h : wpAny M A (evalArgs (.ref x) true args kws) (fun a s1 => (∃ dx od, InstAt s1.heap x (instObj C dx) C od) ∧ wpAny M A (call (.ref x) (first ++ a.pos) a.kw) Q E s1) E s) : wpAny M A (callWith pos (.ref x) first args kws) Q E s := by
  unfold callWith
  refine wpAny_bind (wpAny_holding (wpAny_mono h (fun a s1 ⟨⟨dx, od, J⟩, hc⟩ => wpAny_bind (wpAny_standAt ?_)) fun _ _ y => y))
  have L := kco_keeper (M := M) J rfl
  simp only [hp]
  refine wpAny_bind (L.here ?_)
  have fin : ∀ {t : Sem Value}, wpAny M A t Q E s1 → wpAny M A (t >>= fun r => holding [r] point >>= fun _ => pure r) Q E s1 :=
    fun ht => wpAny_bind (wpAny_mono ht (fun r _ hr => wpAny_bind (wpAny_holding (wpAny_point (wpAny_pure hr)))) fun _ _ y => y)
  exact fin (wpAny_operateT hc)
end
/-- o(e, ..), o an instance of C -/
def tInst (C : Addr) (sp : Sp) (dvs : List V) (ta : TE) (t : TA) : TE := fun σ H Q => ta σ H fun x H1 => ∃ a, x = .ref a ∧ t σ H1 fun vs H2 => (∃ dx fs, H2 a = some (.ins C dx fs)) ∧ sp (.ref a :: (vs ++ dvs)) H2 Q E0
/-- o(k = e, ..) -/
def tInstN (C : Addr) (n : Nat) (sp : Sp) (gV : List V → List V) (ta : TE) (tk : TA) : TE := fun σ H Q => ta σ H fun x H1 => ∃ a, x = .ref a ∧ tk σ H1 fun zs H2 => zs.length = n ∧ (∃ dx fs, H2 a = some (.ins C dx fs)) ∧ sp (.ref a :: gV zs) H2 Q E0
section
variable {X : Cx} {k j n : Nat} {f C : Addr} {ps ks : List Str} {dvs : List V} {sp : Sp} {pos : Pos} {e o : Expr} {es : List Expr} {ta : TE} {t tk : TA} {kws : List Keyword}
theorem run_inst {pins : List (Addr × Obj)} {σ : L2.St} {H : Hp} {s : Shared} {Q : VK} {us : List Value} {vs : List V} {kw : List (Str × Value)} {x : Addr} {fd : FuncData} {wv : List Value} {dx : Addr} {fs : List (Str × V)} (F : FnOk X.prog X.w X.K X.mg X.base CX0 k f fd ps sp) (hr : Room k X.A) (c : CallOf X.K C f)
    (I : Inv X pins σ H s) (ha : H x = some (.ins C dx fs)) (hb : BindsTo s fd ⟨.ref x :: us, kw⟩ (ps.zip wv)) (r : Vals vs wv) (h : sp vs H Q E0) : wpAny (model X.prog X.w) X.A (call (.ref x) us kw) (EP X pins σ Q) X.xe s := by
  obtain ⟨mA, O, _, _, _, _⟩ := ins_get I.hok ha
  obtain ⟨od, J, _⟩ := O.look
  refine wpAny_call (PySem.W.kco_code I.kIn J rfl c.at_ c.fn c.fi (codeAny_mono (F.run X.A X.stack s H ⟨.ref x :: us, kw⟩ wv vs Q E0 hr I.env0 hb r h) fun r s' hq => ?_))
  cases r with
  | error e => exact pass0 pins σ H s e s' I hq
  | ok fl =>
    cases fl with
    | ret u => exact I.after hq
    | next => exact False.elim hq
    | brk => exact False.elim hq
    | cont => exact False.elim hq
theorem inst_at {pins : List (Addr × Obj)} {σ : L2.St} {H : Hp} {s : Shared} {x : Addr} (I : Inv X pins σ H s) (h : ∃ dx fs, H x = some (.ins C dx fs)) : ∃ dx od, PySem.W.InstAt s.heap x (PySem.W.instObj C dx) C od := by
  obtain ⟨dx, fs, ha⟩ := h
  obtain ⟨mA, O, _, _, _, _⟩ := ins_get I.hok ha
  obtain ⟨od, J, _⟩ := O.look
  exact ⟨dx, some od, J⟩
theorem pe_ci (c : Fr X.prog X.w X.K X.mg X.base k f ps dvs sp) (cl : CallOf X.K C f) (hr : Room j X.A) (hk : k ≤ j) (he : PE X o ta) (ha : PA X (e :: es) t)
    (ht : eval (.Call o (e :: es) [] pos) X.env = (eval o X.env >>= fun fn => callWith pos fn [] (backTo pos (starEach (e :: es) X.env)) (backToKw pos (keywordEach [] X.env))) := by rfl)
    (hst : starEach (e :: es) X.env = (false, eval e X.env) :: starEach es X.env := by rfl) (hpl : (backTo pos (starEach es X.env)).any (·.1) = false := by rfl) : PE X (.Call o (e :: es) [] pos) (tInst C sp dvs ta t) := by
  obtain ⟨fd, ds, ok, b, v⟩ := c.ex
  refine ⟨fun pins s σ H Q I h => ?_⟩
  rw [ht]
  refine wpAny_bind (thn (he.run pins s σ H _ I h) fun u s1 ⟨x, H1, I1, rx, a, ex, q⟩ => ?_)
  subst ex
  obtain rfl : u = Value.ref a := rx
  have lp : ((backTo pos (starEach (e :: es) X.env)).any (·.1) || (backToKw pos (keywordEach [] X.env)).any (·.1.isNone)) = false := by
    rw [hst]
    show ((false || (backTo pos (starEach es X.env)).any (·.1)) || false) = false
    rw [hpl]
    rfl
  refine inst_callWith (C := C) lp ?_
  have hrun := thn (ha.run pos pins s1 σ H1 _ I1 q) fun us s2 ⟨vs, H2, I2, r, hi, q2⟩ => (show (∃ dx od, PySem.W.InstAt s2.heap a (PySem.W.instObj C dx) C od) ∧ wpAny (model X.prog X.w) X.A (call (.ref a) us) (EP X pins σ Q) X.xe s2 from by
    refine ⟨inst_at I2 hi, ?_⟩
    obtain ⟨dx, fs, hi⟩ := hi
    have r2 : Vals (.ref a :: (vs ++ dvs)) (.ref a :: (us ++ ds)) := .cons rfl (r.append v)
    have hl : ((Value.ref a :: us) ++ ds).length = ps.length := by
      rw [← ok.len _ _ _ _ q2]
      exact r2.length.symm
    exact run_inst ok (hr.mono hk) cl I2 hi (b s2 (.ref a :: us) I2.kIn hl) r2 q2)
  rw [hst] at hrun ⊢
  exact PySem.Calls.evalArgs_plain hrun
/-- keywords alone, all parameters given: gV puts them in order -/
theorem pe_ciN {fd : FuncData} {g : List Value → List Value} {gV : List V → List V} (ok : FnOk X.prog X.w X.K X.mg X.base CX0 k f fd ps sp) (cl : CallOf X.K C f) (hr : Room j X.A) (hk : k ≤ j) (he : PE X o ta) (hkw : PK X kws tk)
    (hb : ∀ (s : Shared) (self : Value) (ws : List Value), X.K.In s.heap → ws.length = ks.length → BindsTo s fd ⟨[self], ks.zip ws⟩ (ps.zip (self :: g ws))) (hg : ∀ {zs : List V} {ws : List Value}, Vals zs ws → Vals (gV zs) (g ws))
    (hall : (backToKw pos (keywordEach kws X.env)).all (·.1.isSome) = true := by rfl) (hks : (backToKw pos (keywordEach kws X.env)).filterMap (·.1) = ks := by rfl)
    (ht : eval (.Call o [] kws pos) X.env = (eval o X.env >>= fun fn => callWith pos fn [] (backTo pos (starEach [] X.env)) (backToKw pos (keywordEach kws X.env))) := by rfl)
    (hpl : ((backTo pos (starEach [] X.env)).any (·.1) || (backToKw pos (keywordEach kws X.env)).any (·.1.isNone)) = false := by rfl) : PE X (.Call o [] kws pos) (tInstN C ks.length sp gV ta tk) := by
  refine ⟨fun pins s σ H Q I h => ?_⟩
  rw [ht]
  refine wpAny_bind (thn (he.run pins s σ H _ I h) fun u s1 ⟨x, H1, I1, rx, a, ex, q⟩ => ?_)
  subst ex
  obtain rfl : u = Value.ref a := rx
  refine inst_callWith (C := C) hpl (PyProof.Rows.evalArgs_kw2_nil hall (thn (hkw.run pos pins s1 σ H1 _ I1 q) fun ws s2 ⟨zs, H2, I2, rz, hl, hi, q2⟩ => ⟨inst_at I2 hi, ?_⟩))
  obtain ⟨dx, fs, hi⟩ := hi
  rw [hks]
  exact run_inst ok (hr.mono hk) cl I2 hi (hb s2 (.ref a) ws I2.kIn (by rw [← hl]; exact rz.length.symm)) (.cons (show RelV (.ref a) (Value.ref a) from rfl) (hg rz)) q2
end
/-! ## generator defs -/
section
variable (P : Program) (w : World) (K : PySem.W.Frag) (mg : Str → Option Value) (base : Heap)
structure Gn (k : Nat) (x : Str) (st : Stmt) (ps : List Str) (sp : SpG) : Prop where
  ex : ∃ (f : Addr) (fd : FuncData), GFn P w K mg base k f fd ps sp ∧ mg x = some (.ref f) ∧ PySem.W.keepIn K (.ref f) = true ∧ Binds K fd ps []
end
theorem gn_of {P : Program} {w : World} {K : PySem.W.Frag} {mg : Str → Option Value} {base : Heap} {x : Str} {st : Stmt} {ps N : List Str} {sp : SpG} {k : Nat} (F : FD K mg x st)
    (hb : ∀ (kV doc pm : Value) (an : Option Addr) (cdv ct : Value) (us : List Value), us.length = ps.length → bindArgs (PySem.W.fnOf x x (defArgs st) (defBody st) (defScope st) .none kV doc pm an cdv ct) ⟨us, []⟩ = pure (ps.zip us))
    (S : GScope N ps (defScope st)) (len : ∀ vs H Q E, sp vs H Q E → vs.length = ps.length)
    (hbody : ∀ (f : Addr) (cdv : Value) (A : Around) (outer : List Env) (s : Shared) (H : Hp) (vs : List V) (Q : List V → Hp → Prop) (E : XK) (pn : List (Addr × Obj)), Room k (A.deeper (envOfC x (defScope st) s.heap.objs.size f cdv)) → sp vs H Q E →
      ∃ t, GSs (gcxOf P w K mg base N x (defScope st) f cdv A outer s H E pn) (defBody st) t ∧ t { nx := fun ys _ H' => Q ys H', rt := fun ys v H' => v = .non ∧ Q ys H' } [] (start N vs) H) : Gn P w K mg base (k + 1) x st ps sp := by
  obtain ⟨f, fd, F, g⟩ := F
  have b := F.bindsN hb
  have kp := F.kp
  obtain ⟨oc, od, dV, kV, doc, pm, an, cdv, ct, osl, rfl, lk, hcd, _, _⟩ := F.ex
  exact ⟨f, _, gfn_of lk hcd S len fun A outer s H vs Q E pn hr h => hbody f cdv A outer s H vs Q E pn hr h, g, kp, b⟩
theorem passCX0 {X : Cx} : Passes (CX X.prog X.w) X E0 := fun _ _ _ _ _ _ _ ⟨_, _, _, _, _, _, _, _, _, _, _, _, z⟩ => z.elim
section
variable {X : Cx} {k j : Nat} {x : Str} {st : Stmt} {ps : List Str} {sp : SpG} {p p1 pos pos1 : Pos} {e : Expr} {es : List Expr} {t : TA}
/-- list(f(e, ..)), f a generator def -/
theorem pe_gl (c : Gn X.prog X.w X.K X.mg X.base k x st ps sp) (hr : Room j X.A) (hk : k + 3 ≤ j) (hg : Gl X x) (hl : Gl X "list") (hm : X.mg "list" = none) (ha : PA X (e :: es) t)
    (hdb : (x == ("__debug__" : Str)) = false := by decide) (he : starEach (e :: es) X.env = (false, eval e X.env) :: starEach es X.env := by rfl) (hpl : (backTo pos1 (starEach es X.env)).any (·.1) = false := by rfl)
    (he1 : starEach [.Call (.Name x p1) (e :: es) [] pos1] X.env = (false, eval (.Call (.Name x p1) (e :: es) [] pos1) X.env) :: starEach [] X.env := by rfl) :
    PE X (.Call (.Name "list" p) [.Call (.Name x p1) (e :: es) [] pos1] [] pos) (tListG (tCallG sp [] E0 t)) := by
  obtain ⟨f, fd, ok, g, kp, b⟩ := c.ex
  exact pe_listG (pgen_call ok (hr.mono (by omega)) hg g kp b .nil ha hdb he hpl) passCX0 (fun _ _ _ z => z.elim) (hr.mono hk) hl hm rfl (he := he1)
end
/-! ## steps -/
theorem Fr.imp {P : Program} {w : World} {K : PySem.W.Frag} {mg : Str → Option Value} {base : Heap} {k : Nat} {f : Addr} {ps : List Str} {dvs : List V} {sp sp' : Sp} (F : Fr P w K mg base k f ps dvs sp) (h : ∀ vs H Q E, sp' vs H Q E → sp vs H Q E) : Fr P w K mg base k f ps dvs sp' := by
  obtain ⟨fd, ds, ok, b, v⟩ := F.ex
  exact ⟨fd, ds, ⟨fun vs H Q E q => ok.len vs H Q E (h vs H Q E q), fun A outer s H args us vs Q E hr e0 hb r q => ok.run A outer s H args us vs Q E hr e0 hb r (h vs H Q E q)⟩, b, v⟩
theorem Fr.lev {P : Program} {w : World} {K : PySem.W.Frag} {mg : Str → Option Value} {base : Heap} {k j : Nat} {f : Addr} {ps : List Str} {dvs : List V} {sp : Sp} (F : Fr P w K mg base k f ps dvs sp) (h : k ≤ j) : Fr P w K mg base j f ps dvs sp := by
  obtain ⟨fd, ds, ok, b, v⟩ := F.ex
  exact ⟨fd, ds, ⟨ok.len, fun A outer s H args us vs Q E hr e0 hb r q => ok.run A outer s H args us vs Q E (hr.mono h) e0 hb r q⟩, b, v⟩
section
variable {K : PySem.W.Frag} {D : Ends} {σ : L2.St} {H : Hp} {Q : VK} {ta tv te : TE} {t : TA} {u : TS} {a C dx : Addr} {fs : List (Str × V)} {f m : Str} {v : V} {sp : Sp} {dvs : List V}
theorem w_fld (q : ta σ H fun x H1 => ∃ a C dx fs v, x = .ref a ∧ H1 a = some (.ins C dx fs) ∧ Cls K C ∧ NoAttr K C f ∧ fs.lookup f = some v ∧ Q v H1) : tFld K ta f σ H Q := q
theorem w_fldAt {P : V → Prop} (h : H a = some (.ins C dx fs)) (c : Cls K C) (n : NoAttr K C f) (l : fs.lookup f = some v) (q : P v) :
    ∃ a' C' dx' fs' v', V.ref a = .ref a' ∧ H a' = some (.ins C' dx' fs') ∧ Cls K C' ∧ NoAttr K C' f ∧ fs'.lookup f = some v' ∧ P v' := ⟨a, C, dx, fs, v, rfl, h, c, n, l, q⟩
theorem w_con (q : ta σ H fun x H1 => ∃ a C dx fs v u, x = .ref a ∧ H1 a = some (.ins C dx fs) ∧ Cls K C ∧ Con K C f v u ∧ fs.lookup f = none ∧ Q v H1) : tCon K ta f σ H Q := q
theorem w_conAt {P : V → Prop} (h : H a = some (.ins C dx fs)) (c : Cls K C) (n : ∃ u, Con K C f v u) (l : fs.lookup f = none) (q : P v) :
    ∃ a' C' dx' fs' v' u, V.ref a = .ref a' ∧ H a' = some (.ins C' dx' fs') ∧ Cls K C' ∧ Con K C' f v' u ∧ fs'.lookup f = none ∧ P v' := let ⟨u, n⟩ := n; ⟨a, C, dx, fs, v, u, rfl, h, c, n, l, q⟩
theorem w_sFld (q : tv σ H fun y H1 => ta σ H1 fun x H2 => ∃ a C dx fs, x = .ref a ∧ H2 a = some (.ins C dx fs) ∧ Cls K C ∧ NoAttr K C f ∧ fs.length < 1000 ∧ D.nx σ (upd H2 a (.ins C dx (putF f y fs)))) : sFld K ta tv f D σ H := q
theorem w_seqF (q : sFld K ta tv f { D with nx := u D } σ H) : tSeq (sFld K ta tv f) u D σ H := q
theorem w_sFldAt {P : Hp → Prop} (h : H a = some (.ins C dx fs)) (c : Cls K C) (n : NoAttr K C f) (l : fs.length < 1000) {gs : List (Str × V)} (e : putF f v fs = gs) (q : P (upd H a (.ins C dx gs))) :
    ∃ a' C' dx' fs', V.ref a = .ref a' ∧ H a' = some (.ins C' dx' fs') ∧ Cls K C' ∧ NoAttr K C' f ∧ fs'.length < 1000 ∧ P (upd H a' (.ins C' dx' (putF f v fs'))) := ⟨a, C, dx, fs, rfl, h, c, n, l, by rw [e]; exact q⟩
theorem w_meth {E : XK} (q : ta σ H fun x H1 => ∃ a dx fs, x = .ref a ∧ H1 a = some (.ins C dx fs) ∧ fs.lookup m = none ∧ t σ H1 fun vs H2 => sp (x :: (vs ++ dvs)) H2 Q E) : tMeth C m sp dvs E ta t σ H Q := q
theorem w_methAt {P : Prop} (h : H a = some (.ins C dx fs)) (l : fs.lookup m = none) (q : P) : ∃ a' dx' fs', V.ref a = .ref a' ∧ H a' = some (.ins C dx' fs') ∧ fs'.lookup m = none ∧ P := ⟨a, dx, fs, rfl, h, l, q⟩
theorem w_prop {E : XK} (q : ta σ H fun x H1 => ∃ a dx fs, x = .ref a ∧ H1 a = some (.ins C dx fs) ∧ sp (.ref a :: dvs) H1 Q E) : tProp C sp dvs E ta σ H Q := q
theorem w_propAt {P : Addr → Prop} (h : H a = some (.ins C dx fs)) (q : P a) : ∃ a' dx' fs', V.ref a = .ref a' ∧ H a' = some (.ins C dx' fs') ∧ P a' := ⟨a, dx, fs, rfl, h, q⟩
theorem w_make {E : XK} (q : t σ H fun vs H1 => ∀ x dx, H1 x = none → H1 dx = none → dx ≠ x → sp (.ref x :: (vs ++ dvs)) (upd (upd H1 dx (.own x)) x (.ins C dx [])) (fun v H2 => v = .non ∧ Q (.ref x) H2) E) : tMake C sp dvs E t σ H Q := q
theorem w_dget {td ty : TE} (q : td σ H fun x H1 => ty σ H1 fun y H2 => ∃ a v, x = .ref a ∧ DGet H2 a y (some v) ∧ Q v H2) : tDGet td ty σ H Q := q
theorem w_din {td ty : TE} (q : ty σ H fun y H1 => td σ H1 fun x H2 => ∃ a o, x = .ref a ∧ DGet H2 a y o ∧ Q (.bl o.isSome) H2) : tDIn ty td σ H Q := q
theorem w_dnotin {td ty : TE} (q : ty σ H fun y H1 => td σ H1 fun x H2 => ∃ a o, x = .ref a ∧ DGet H2 a y o ∧ Q (.bl (!o.isSome)) H2) : tDNotIn ty td σ H Q := q
theorem w_dput {td ty : TE} (q : tv σ H fun v H1 => td σ H1 fun x H2 => ty σ H2 fun y H3 => ∃ a H4, x = .ref a ∧ DPut H3 a y v H4 ∧ D.nx σ H4) : sDPut td ty tv D σ H := q
theorem w_seqD {td ty : TE} (q : sDPut td ty tv { D with nx := u D } σ H) : tSeq (sDPut td ty tv) u D σ H := q
theorem w_gTup {n : Nat} {tg : TGs} {xs : List V} {R : L2.St → Hp → Prop} (h : H a = some (.tup xs)) (l : xs.length = n) (q : tg xs σ H R) : gTup K n tg (.ref a) σ H R := ⟨a, xs, rfl, SqT.of h, l, q⟩
theorem w_gCons {g : TG} {gs : TGs} {r : List V} {R : L2.St → Hp → Prop} (q : g v σ H fun σ' H' => gs r σ' H' R) : gCons g gs (v :: r) σ H R := ⟨v, r, rfl, q⟩
theorem w_gNil {R : L2.St → Hp → Prop} (q : R σ H) : gNil [] σ H R := ⟨rfl, q⟩
theorem putF_one {fs : List (Str × V)} : putF f v [] = [(f, v)] := rfl
end
theorem same_two {H : Hp} {x dx : Addr} {o u : HO} (h1 : H x = none) (h2 : H dx = none) : Same H (upd (upd H dx o) x u) := fun b w hb => by
  rw [upd_ne (ne_of_none hb h1), upd_ne (ne_of_none hb h2)]
  exact hb
/-- a walk over fixed items, each in a new pair -/
theorem for_itw {S : Hp → Prop} {xs : List V} {g : TG} {tb : TS} {D : Ends} {σ : L2.St} {H : Hp} (Pv : Nat → L2.St → Hp → Prop) (h0 : Pv 0 σ H) (hS : ∀ i σ H, Pv i σ H → S H)
    (hs : ∀ i x T σ H, xs[i]? = some x → Pv i σ H → H T = none → g (.ref T) σ (upd H T (.tup [.int (i : Nat), x])) fun σ2 H2 => tb { D with nx := Pv (i + 1), ct := Pv (i + 1), bk := D.nx } σ2 H2)
    (hd : ∀ σ H, Pv xs.length σ H → D.nx σ H) :
    ∃ W : Nat → Nat → L2.St → Hp → Prop, (∃ m, W 0 m σ H) ∧ ∀ i m σ H, W i m σ H →
      ((Itw S xs).stop i H ∧ D.nx σ H) ∨ ((Itw S xs).go i H ∧ ∃ N : L2.St → Hp → Prop, (∀ σ' H', N σ' H' → ∃ m', m' < m ∧ W (i + 1) m' σ' H') ∧ ∀ x H', (Itw S xs).yld i H x H' → g x σ H' fun σ2 H2 => tb { D with nx := N, ct := N, bk := D.nx } σ2 H2) := by
  refine ⟨fun i m σ H => m = xs.length - i ∧ i ≤ xs.length ∧ Pv i σ H, ⟨xs.length, by simp, Nat.zero_le _, h0⟩, ?_⟩
  rintro i m σ H ⟨rfl, hi, p⟩
  by_cases hlt : i < xs.length
  · refine .inr ⟨⟨hS i σ H p, hlt⟩, Pv (i + 1), fun σ' H' p' => ⟨xs.length - (i + 1), by omega, rfl, hlt, p'⟩, fun x H' y => ?_⟩
    obtain ⟨T, x', rfl, hT, hx, rfl⟩ := y
    exact hs i x' T σ H hx p hT
  · have e : i = xs.length := by omega
    subst e
    exact .inl ⟨⟨hS _ σ H p, Nat.le_refl _⟩, hd σ H p⟩
/-- {k: v for i, x in enumerate(list)} -/
theorem dc_ite {K : PySem.W.Frag} {a : Addr} {xs : List V} {g : TG} {tt : TT} {tk tv : TE} {vs : List Nat} {σ : L2.St} {H1 : Hp} {D : Addr} {Qd : Hp → Prop} (Pv : Nat → Hp → Prop) (h0 : Pv 0 (upd H1 D (.dK []))) (hl : ∀ i H, Pv i H → SqL K H a xs)
    (hs : ∀ i x T H, xs[i]? = some x → Pv i H → H T = none → g (.ref T) (wipe σ vs) (upd H T (.tup [.int (i : Nat), x])) fun σ2 H2 => wipe σ2 vs = wipe σ vs ∧ tt σ2 H2 fun b H3 =>
      if b = true then tk σ2 H3 fun y H4 => tv σ2 H4 fun z H5 => ∃ kvs k, y = kV k ∧ H5 D = some (.dK kvs) ∧ kvs.length < sizeLine ∧ Pv (i + 1) (upd H5 D (.dK (putK kvs k z))) else Pv (i + 1) H3) (hd : ∀ H, Pv xs.length H → Qd H) :
    ∃ W : Nat → Nat → Hp → Prop, (∃ m, W 0 m (upd H1 D (.dK []))) ∧ ∀ i m H, W i m H →
      ((Ite K a).stop i H ∧ Qd H) ∨ ((Ite K a).go i H ∧ ∃ Nx : Hp → Prop, (∀ H', Nx H' → ∃ m', m' < m ∧ W (i + 1) m' H') ∧ ∀ x H', (Ite K a).yld i H x H' → g x (wipe σ vs) H' fun σ2 H2 => wipe σ2 vs = wipe σ vs ∧ tt σ2 H2 fun b H3 =>
        if b = true then tk σ2 H3 fun y H4 => tv σ2 H4 fun z H5 => ∃ kvs k, y = kV k ∧ H5 D = some (.dK kvs) ∧ kvs.length < sizeLine ∧ Nx (upd H5 D (.dK (putK kvs k z))) else Nx H3) := by
  refine ⟨fun i m H => m = xs.length - i ∧ i ≤ xs.length ∧ Pv i H, ⟨xs.length, by simp, Nat.zero_le _, h0⟩, ?_⟩
  rintro i m H ⟨rfl, hi, p⟩
  have q := hl i H p
  by_cases hlt : i < xs.length
  · refine .inr ⟨⟨xs, xs[i], q, List.getElem?_eq_getElem hlt⟩, Pv (i + 1), fun H' p' => ⟨xs.length - (i + 1), by omega, rfl, hlt, p'⟩, fun x H' y => ?_⟩
    obtain ⟨T, x', rfl, hT, rfl, hx⟩ := y
    exact hs i x' T H (hx xs q) p hT
  · have e : i = xs.length := by omega
    subst e
    exact .inl ⟨⟨xs, q, Nat.le_refl _⟩, hd H p⟩
/-- a class by its name -/
theorem pe_gc {X : Cx} {x : Str} {C : Addr} {pos : Pos} (hg : Gl X x) (h : X.mg x = some (.ref C)) (hd : (x == ("__debug__" : Str)) = false := by decide) : PE X (.Name x pos) (tC (.ref C)) :=
  pe_gv hg ⟨_, h, rfl⟩ hd
/-- one of two rules -/
def tTwo (t u : TE) : TE := fun σ H Q => t σ H Q ∨ u σ H Q
def iTwo (t u : TI) : TI := fun σ H R => t σ H R ∨ u σ H R
theorem pe_two {X : Cx} {e : Expr} {t u : TE} (h1 : PE X e t) (h2 : PE X e u) : PE X e (tTwo t u) := ⟨fun pins s σ H Q I q => q.elim (fun q => h1.run pins s σ H Q I q) fun q => h2.run pins s σ H Q I q⟩
theorem pi_two {X : Cx} {tg e : Expr} {t u : TI} (h1 : PI X tg e t) (h2 : PI X tg e u) : PI X tg e (iTwo t u) := ⟨fun pins s σ H R I q => q.elim (fun q => h1.run pins s σ H R I q) fun q => h2.run pins s σ H R I q⟩
/-! ## an instance called with keywords; str(o) of an own instance; f-strings -/
section
variable (P : Program) (w : World) (K : PySem.W.Frag) (mg : Str → Option Value) (base : Heap)
/-- the def at f, called with the instance and the keywords ks -/
structure FrN (k : Nat) (f : Addr) (ps ks : List Str) (sp : Sp) : Prop where
  ex : ∃ fd : FuncData, FnOk P w K mg base CX0 k f fd ps sp ∧ ∀ (s : Shared) (self : Value) (ws : List Value), K.In s.heap → ws.length = ks.length → BindsTo s fd ⟨[self], ks.zip ws⟩ (ps.zip (self :: ws))
end
theorem frn_of {P : Program} {w : World} {K : PySem.W.Frag} {mg : Str → Option Value} {base : Heap} {x q : Str} {st : Stmt} {ps ks N : List Str} {sp : Sp} {k : Nat} {f : Addr} (F : FA K x q st [] f)
    (hb : ∀ (kV doc pm : Value) (an : Option Addr) (cdv ct self : Value) (ws : List Value), ws.length = ks.length → bindArgs (PySem.W.fnOf x q (defArgs st) (defBody st) (defScope st) .none kV doc pm an cdv ct) ⟨[self], ks.zip ws⟩ = pure (ps.zip (self :: ws)))
    (S : FnScope N ps (defScope st)) (len : ∀ vs H Q E, sp vs H Q E → vs.length = ps.length) (hbody : BodyOk P w K mg base k q st N sp) : FrN P w K mg base (k + 1) f ps ks sp := by
  obtain ⟨fd, F⟩ := F
  have ok := F.ok S len fun cdv A outer s H vs Q E hr h => hbody f cdv A outer s H vs Q E hr h
  obtain ⟨oc, od, dV, kV, doc, pm, an, cdv, ct, osl, rfl, lk, hcd, hD, hK⟩ := F.ex
  rcases hD with ⟨_, rfl⟩ | ⟨e, _⟩
  · exact ⟨_, ok, fun s self ws _ hl => .of_eq (hb kV doc pm an cdv ct self ws hl)⟩
  · exact absurd rfl e
theorem pe_cN {X : Cx} {k j : Nat} {f C : Addr} {ps ks : List Str} {sp : Sp} {pos : Pos} {o : Expr} {ta : TE} {tk : TA} {kws : List Keyword} (c : FrN X.prog X.w X.K X.mg X.base k f ps ks sp) (cl : CallOf X.K C f) (hr : Room j X.A) (hk : k ≤ j) (he : PE X o ta) (hkw : PK X kws tk)
    (hall : (backToKw pos (keywordEach kws X.env)).all (·.1.isSome) = true := by rfl) (hks : (backToKw pos (keywordEach kws X.env)).filterMap (·.1) = ks := by rfl)
    (ht : eval (.Call o [] kws pos) X.env = (eval o X.env >>= fun fn => callWith pos fn [] (backTo pos (starEach [] X.env)) (backToKw pos (keywordEach kws X.env))) := by rfl)
    (hpl : ((backTo pos (starEach [] X.env)).any (·.1) || (backToKw pos (keywordEach kws X.env)).any (·.1.isNone)) = false := by rfl) : PE X (.Call o [] kws pos) (tInstN C ks.length sp (fun zs => zs) ta tk) := by
  obtain ⟨fd, ok, hb⟩ := c.ex
  exact pe_ciN (g := fun ws => ws) (gV := fun zs => zs) ok cl hr hk he hkw hb (fun r => r) hall hks ht hpl
/-- the same def at a smaller promise -/
theorem FrN.lev {P : Program} {w : World} {K : PySem.W.Frag} {mg : Str → Option Value} {base : Heap} {k j : Nat} {f : Addr} {ps ks : List Str} {sp : Sp} (F : FrN P w K mg base k f ps ks sp) (h : k ≤ j) : FrN P w K mg base j f ps ks sp := by
  obtain ⟨fd, ok, b⟩ := F.ex
  exact ⟨fd, ⟨ok.len, fun A outer s H args us vs Q E hr e0 hb r q => ok.run A outer s H args us vs Q E (hr.mono h) e0 hb r q⟩, b⟩
/-! ### str(o), o an instance with its own __str__ -/
theorem cl_strObj {X : Cx} {k j : Nat} {f C : Addr} {sp : Sp} (c : Fr X.prog X.w X.K X.mg X.base k f ["self"] [] sp) (b : StrBy X.K C f) (hr : Room j X.A) (hk : k + 2 ≤ j) :
    CallR X (.type "str") (fun xs H Q => ∃ a dx fs, xs = [.ref a] ∧ H a = some (.ins C dx fs) ∧ sp [.ref a] H (fun v H' => ∃ z, v = .str z ∧ Q v H') E0) := by
  intro pins s σ H xs us Q I r h
  obtain ⟨a, dx, fs, rfl, ha, q⟩ := h
  obtain ⟨u, rfl, ru⟩ := vals1 r
  obtain rfl : u = Value.ref a := ru
  obtain ⟨fd, ds, ok, bd, v⟩ := c.ex
  cases v
  obtain ⟨mA, O, _, _, _, _⟩ := ins_get I.hok ha
  obtain ⟨od, J, _⟩ := O.look
  have hr2 : Room k X.A.in1.in1 := (show Room (k + 1 + 1) X.A from hr.mono hk).in1.in1
  refine PySem.W.kso_call hr2.units0 I.kIn J b.at_ b.fn ?_
  refine wpAny_call (codeAny_mono (ok.run X.A.in1.in1 X.stack s H ⟨[.ref a], []⟩ [.ref a] [.ref a] _ E0 hr2 I.env0.in1.in1 (bd s [.ref a] I.kIn rfl) (.cons rfl .nil) q) fun r s' hq => ?_)
  cases r with
  | error e => exact False.elim hq
  | ok fl =>
    cases fl with
    | ret u =>
      obtain ⟨v, H', I', rv, z, rfl, q'⟩ := I.after hq
      obtain ⟨t, rfl⟩ := rv
      exact ⟨.str z, H', I', ⟨t, rfl⟩, q'⟩
    | next => exact False.elim hq
    | brk => exact False.elim hq
    | cont => exact False.elim hq

/-- f'..' of some parts -/
def tJoined (ts : List TE) : TE := fun σ H Q => tJs ts Str.empty σ H fun out H1 => Q (.str out) H1
theorem pe_joinedT {X : Cx} {v1 v2 : Expr} {rest : List Expr} {ts : List TE} {pos : Pos} (h : PJ X (v1 :: v2 :: rest) ts) : PE X (.JoinedStr (v1 :: v2 :: rest) pos) (tJoined ts) := pe_joined h
section
variable {σ : L2.St} {H : Hp} {Q : VK} {ta : TE} {t tk : TA} {C : Addr} {sp : Sp} {dvs : List V} {gV : List V → List V} {n : Nat}
theorem w_inst (q : ta σ H fun x H1 => ∃ a, x = .ref a ∧ t σ H1 fun vs H2 => (∃ dx fs, H2 a = some (.ins C dx fs)) ∧ sp (.ref a :: (vs ++ dvs)) H2 Q E0) : tInst C sp dvs ta t σ H Q := q
theorem w_instN (q : ta σ H fun x H1 => ∃ a, x = .ref a ∧ tk σ H1 fun zs H2 => zs.length = n ∧ (∃ dx fs, H2 a = some (.ins C dx fs)) ∧ sp (.ref a :: gV zs) H2 Q E0) : tInstN C n sp gV ta tk σ H Q := q
theorem w_instAt {a : Addr} {P : Addr → Prop} (q : P a) : ∃ a', V.ref a = .ref a' ∧ P a' := ⟨a, rfl, q⟩
theorem w_joined {ts : List TE} (q : tJs ts Str.empty σ H fun out H1 => Q (.str out) H1) : tJoined ts σ H Q := q
theorem w_js {t : TE} {ts : List TE} {acc : Str} {R : Str → Hp → Prop} (q : t σ H fun x H1 => ∃ y : Str, x = .str y ∧ (acc ++ y).length ≤ sizeLine ∧ tJs ts (acc ++ y) σ H1 R) : tJs (t :: ts) acc σ H R := q
theorem w_js0 {acc : Str} {R : Str → Hp → Prop} (q : R acc H) : tJs [] acc σ H R := q
theorem w_jsAt {acc y : Str} {P : Str → Prop} (h : (acc ++ y).length ≤ sizeLine) (q : P y) : ∃ z : Str, V.str y = .str z ∧ (acc ++ z).length ≤ sizeLine ∧ P z := ⟨y, rfl, h, q⟩
theorem w_fmt {te : TE} (q : te σ H fun x H1 => (∃ y : Str, x = .str y ∧ y.length ≤ sizeLine ∧ Q (.str y) H1) ∨ ∃ i : Int, x = .int i ∧ i.natAbs.log2 < 1920 ∧ Q (.str (toString i)) H1) : tFmt te σ H Q := q
theorem w_fmtS {y : Str} {B : Prop} (h : y.length ≤ sizeLine) (q : Q (.str y) H) : (∃ z : Str, V.str y = .str z ∧ z.length ≤ sizeLine ∧ Q (.str z) H) ∨ B := .inl ⟨y, rfl, h, q⟩
theorem w_fmtI {i : Int} {B : Prop} (h : i.natAbs.log2 < 1920) (q : Q (.str (toString i)) H) : B ∨ ∃ z : Int, V.int i = .int z ∧ z.natAbs.log2 < 1920 ∧ Q (.str (toString z)) H := .inr ⟨i, rfl, h, q⟩
end
/-- {o} in an f-string: C's instances are told by the def at f -/
structure FmtBy (K : PySem.W.Frag) (C f : Addr) : Prop where
  at_ : PySem.W.findIn K (.ref C) "__str__" = some (some (.ref f))
  fn : PySem.W.isFn K (.ref f) = true
  fm : PySem.W.findIn K (.ref C) "__format__" = some (some (.builtin "object.__format__"))
  mro : PySem.W.mroIn K C (.type "object") = some true
def tFmtO (C : Addr) (sp : Sp) (te : TE) : TE := fun σ H Q => te σ H fun x H1 => ∃ a dx fs, x = .ref a ∧ H1 a = some (.ins C dx fs) ∧ sp [.ref a] H1 (fun v H' => ∃ z, v = .str z ∧ Q v H') E0
theorem pe_fmtO {X : Cx} {k j : Nat} {f C : Addr} {sp : Sp} {e : Expr} {te : TE} {pos : Pos} (c : Fr X.prog X.w X.K X.mg X.base k f ["self"] [] sp) (b : FmtBy X.K C f) (hr : Room j X.A) (hk : k + 1 ≤ j) (he : PE X e te) : PE X (.FormattedValue e (-1) none pos) (tFmtO C sp te) := by
  refine ⟨fun pins s σ H Q I h => ?_⟩
  refine wpAny_FormattedValue_plain (thn (he.run pins s σ H _ I h) fun u s1 hv => ?_)
  obtain ⟨x, H1, I1, ru, a, dx, fs, rfl, ha, q⟩ := hv
  obtain rfl : u = Value.ref a := ru
  obtain ⟨fd, ds, ok, bd, v⟩ := c.ex
  cases v
  obtain ⟨mA, O, _, _, _, _⟩ := ins_get I1.hok ha
  obtain ⟨od, J, _⟩ := O.look
  have hr2 : Room k X.A.in1 := (show Room (k + 1) X.A from hr.mono hk).in1
  have I2 := I1.tok (s1.toks + 1)
  refine PySem.W.kfo_fieldS hr2.units0 I1.kIn J b.fm b.mro b.at_ b.fn ?_
  refine wpAny_call (codeAny_mono (ok.run X.A.in1 X.stack _ H1 ⟨[.ref a], []⟩ [.ref a] [.ref a] _ E0 hr2 I2.env0.in1 (bd _ [.ref a] I2.kIn rfl) (.cons rfl .nil) q) fun r s' hq => ?_)
  cases r with
  | error e => exact False.elim hq
  | ok fl =>
    cases fl with
    | ret u =>
      obtain ⟨v, H', I', rv, z, rfl, q'⟩ := I2.after hq
      obtain ⟨t, rfl⟩ := rv
      exact ⟨.str z, H', I', ⟨t, rfl⟩, q'⟩
    | next => exact False.elim hq
    | brk => exact False.elim hq
    | cont => exact False.elim hq
theorem w_fmtO {σ : L2.St} {H : Hp} {Q : VK} {C : Addr} {sp : Sp} {te : TE} (q : te σ H fun x H1 => ∃ a dx fs, x = .ref a ∧ H1 a = some (.ins C dx fs) ∧ sp [.ref a] H1 (fun v H' => ∃ z, v = .str z ∧ Q v H') E0) : tFmtO C sp te σ H Q := q
end LB
set_option Elab.async false
set_option linter.all false
set_option maxRecDepth 100000
set_option maxHeartbeats 4000000
namespace LB
open PySem PySem.Spec PyProof.Rows L2
/-! ## operators of own classes -/
/-- C's instances have m as the def at f -/
structure SpecOf (K : PySem.W.Frag) (C : Addr) (m : Str) (f : Addr) : Prop where
  at_ : PySem.W.findIn K (.ref C) m = some (some (.ref f))
  fn : PySem.W.isFn K (.ref f) = true
section
variable {X : Cx} {k j : Nat} {f C : Addr} {ps : List Str} {dvs : List V} {sp : Sp}
theorem run_own {pins : List (Addr × Obj)} {σ : L2.St} {H : Hp} {s : Shared} {Q : VK} {us : List Value} {vs : List V} (c : Fr X.prog X.w X.K X.mg X.base k f ps [] sp) (hr : Room j X.A) (hk : k ≤ j) (I : Inv X pins σ H s) (r : Vals vs us) (h : sp vs H Q E0) :
    wpAny (model X.prog X.w) X.A (call (.ref f) us) (EP X pins σ Q) X.xe s := by
  obtain ⟨fd, ds, ok, bd, v⟩ := c.ex
  cases v
  have hl : (us ++ []).length = ps.length := by
    rw [List.append_nil, ← r.length]
    exact ok.len _ _ _ _ h
  have b := bd s us I.kIn hl
  rw [List.append_nil] at b
  refine wpAny_call (codeAny_mono (ok.run X.A X.stack s H ⟨us, []⟩ us vs Q E0 (hr.mono hk) I.env0 b r h) fun r s' hq => ?_)
  cases r with
  | error e => exact False.elim (show False from hq)
  | ok fl =>
    cases fl with
    | ret u => exact I.after hq
    | next => exact False.elim hq
    | brk => exact False.elim hq
    | cont => exact False.elim hq
def rInO (C : Addr) (sp : Sp) : R2 := fun x y H Q => ∃ a dx fs, y = .ref a ∧ H a = some (.ins C dx fs) ∧ sp [.ref a, x] H (fun v H' => ∃ t, v = .bl t ∧ Q (.bl t) H') E0
theorem op_inO (c : Fr X.prog X.w X.K X.mg X.base k f ps [] sp) (b : SpecOf X.K C "__contains__" f) (hr : Room j X.A) (hk : k ≤ j) : OpR X (compareOp .In) (rInO C sp) := by
  intro pins s σ H x y v u Q I rx ry h
  obtain ⟨a, dx, fs, rfl, ha, q⟩ := h
  obtain rfl : u = Value.ref a := ry
  obtain ⟨mA, O, _, _, _, _⟩ := ins_get I.hok ha
  obtain ⟨od, J, _⟩ := O.look
  obtain ⟨m, F⟩ := I.fr
  refine PySem.W.in_K F I.ok.mod.kin J b.at_ b.fn (thn (run_own c hr hk I (.cons (show RelV (.ref a) (Value.ref a) from rfl) (.cons rx .nil)) q) fun r s' hq => ?_)
  obtain ⟨w, H', I', rw_, t, rfl, q'⟩ := hq
  obtain rfl : r = Value.bool t := rw_
  exact wpAny_truthy_bool ⟨.bl t, H', I', rfl, q'⟩
def rItO (C : Addr) (sp : Sp) : R2 := fun x y H Q => ∃ a dx fs, x = .ref a ∧ H a = some (.ins C dx fs) ∧ sp [.ref a, y] H Q E0
theorem pe_ixO {e i : Expr} {te ti : TE} {pos : Pos} (c : Fr X.prog X.w X.K X.mg X.base k f ps [] sp) (b : SpecOf X.K C "__getitem__" f) (fi : PySem.W.fnIn X.K f = true) (hr : Room j X.A) (hk : k + 1 ≤ j) (he : PE X e te) (hi : PE X i ti)
    (hsl : ∀ v u, subscripted i true v u = runValue (.builtin "lifetime.subscript" ⟨[v, u], []⟩) := by intro _ _; with_unfolding_all rfl) : PE X (.Subscript e i pos) (tOp (rItO C sp) te ti) := by
  refine ⟨fun pins s σ H Q I h => ?_⟩
  refine Subscript_ (binT he hi I h fun v u s2 x y H2 I2 rx ry q => ?_)
  obtain ⟨a, dx, fs, rfl, ha, q⟩ := q
  obtain rfl : v = Value.ref a := rx
  obtain ⟨mA, O, _, _, _, _⟩ := ins_get I2.hok ha
  obtain ⟨od, J, _⟩ := O.look
  obtain ⟨m, F⟩ := I2.fr
  obtain ⟨fd, ds, ok, bd, vd⟩ := c.ex
  cases vd
  have r2 : Vals [.ref a, y] [Value.ref a, u] := .cons (show RelV (.ref a) (Value.ref a) from rfl) (.cons ry .nil)
  have hl : ([Value.ref a, u] ++ []).length = ps.length := (ok.len _ _ _ _ q)
  have hr2 : Room k X.A.in1 := (show Room (k + 1) X.A from hr.mono hk).in1
  refine PySem.W.sub_K F I2.ok.mod.kin J b.at_ fi b.fn ?_ (hsl _ _)
  refine wpAny_call (codeAny_mono (ok.run X.A.in1 X.stack s2 H2 ⟨[.ref a, u], []⟩ [.ref a, u] [.ref a, y] Q E0 hr2 I2.env0.in1 (bd s2 [.ref a, u] I2.kIn hl) r2 q) fun r s' hq => ?_)
  cases r with
  | error e => exact False.elim (show False from hq)
  | ok fl =>
    cases fl with
    | ret u => exact I2.after hq
    | next => exact False.elim hq
    | brk => exact False.elim hq
    | cont => exact False.elim hq
end
/-! int op o, by o's reflected method -/
structure ROpOf (K : PySem.W.Frag) (C : Addr) (nm : String) (f : Addr) : Prop where
  fwd : PySem.W.findIn K (.ref C) (PySem.dunder nm) = some none
  rev : PySem.W.findIn K (.ref C) (dunderR nm) = some (some (.ref f))
  fn : PySem.W.isFn K (.ref f) = true
  self : PySem.W.selfFirst K C = true
  sub : PySem.W.subIn K (.ref C) (.type "int") = some false
section
open PySem.W
variable {M : Model} {K : Frag} {C f : Addr} {nm : String} {h : Heap}
theorem fills_rev (X : K.In h) (r : ROpOf K C nm f) : Looks M h (fillsNumberSlot (.ref C) nm) true := by
  intro A Q E s k q
  obtain ⟨cd, rest, hcd, hm⟩ := ksp_first r.self
  obtain ⟨hh, g, d, tt, os⟩ := s
  have X' : K.In hh := X.keeps k
  have Y1 : Looks M hh (typeLookup (.ref C) (PySem.dunder nm)) none := looks_findIn X' r.fwd
  have Y2 : Looks M hh (typeLookup (.ref C) (dunderR nm)) (some (.ref f)) := looks_findIn X' r.rev
  have Y0 : Looks M hh (mroOf (.ref C)) (.ref C :: rest) := by
    have := (looks_clsIn (M := M) X' hcd).andThen (f := fun c => pure c.mro) (b := .ref C :: rest) (by rw [hm]; exact .now)
    exact this
  unfold fillsNumberSlot
  repeat lk
  exact q
end
section
open PySem.W
variable {prog : Program} {w : World} {A : Around} {E : Value → Shared → Prop} {s : Shared} {K : Frag} {x C f : Addr} {ox : Obj} {od : Option Obj} {n : Int} {t : Tok}
theorem asInt_no {M : Model} {h : Heap} (J : InstAt h x ox C od) (hd : ox.data = .plain) : Looks M h (asInt? (.ref x)) none := by
  have z : Looks M h (load x) ox := Looks.ld J.at_
  refine z.andThen ?_
  rw [hd]
  exact .now
theorem int_div_no {Q : Value → Shared → Prop} (J : InstAt s.heap x ox C od) (hd : ox.data = .plain) (q : Q .notImplemented s) : wpAny (model prog w) A (call (.builtin "int.__floordiv__") [.int n t, .ref x]) Q E s := by
  refine wpAny_call_entry PySem.F.slot_int_floordiv (typeIs_int s n t) PySem.F.entry_int_floordiv ?_ (PySem.F.args_int_floordiv_2 _ _)
  obtain ⟨hh, g, d, tt, os⟩ := s
  have Y0 : Looks (model prog w) hh (asInt? (.ref x)) none := asInt_no J hd
  unfold Builtin.«int.__floordiv__» Builtin.exactOperandsForPylong
  repeat lk
  refine wpAny_load J.at_ ?_
  rw [hd]
  repeat lk
  exact ⟨_, rfl, q⟩
theorem try_div_no {Q : Option Value → Shared → Prop} (J : InstAt s.heap x ox C od) (hd : ox.data = .plain) (q : Q none s) : wpAny (model prog w) A (tryMethod (.int n t) (PySem.dunder "floordiv") (.ref x)) Q E s := by
  have c1 : wpAny (model prog w) A (call (.builtin "int.__floordiv__") [.int n t, .ref x]) (fun v s' => v = .notImplemented ∧ Q none s') E s := int_div_no J hd ⟨rfl, q⟩
  have t1 : s.TypeIs (.int n t) "int" := typeIs_int s n t
  have l1 : Slot "int" (PySem.dunder "floordiv") "int.__floordiv__" := PySem.F.slot_int_floordiv
  generalize PySem.dunder "floordiv" = nm at l1 ⊢
  exact wpAny_tryMethod_declines t1 l1 c1
theorem bin_rdiv {Q : Value → Shared → Prop} (X : K.In s.heap) (J : InstAt s.heap x ox C od) (hd : ox.data = .plain) (r : ROpOf K C "floordiv" f) (h : wpAny (model prog w) A (call (.ref f) [.ref x, .int n t]) (PySem.W.CmpBack Q) E s) :
    wpAny (model prog w) A (binaryOp .FloorDiv (.int n t) (.ref x)) Q E s := by
  have one := ksp_try X J r.rev r.fn h
  obtain ⟨hh, g, d, tt, os⟩ := s
  have Z1 : Looks (model prog w) hh (typeOf (.int n t)) (.type "int") := Looks.of_pure rfl
  have Z2 : Looks (model prog w) hh (typeOf (.ref x)) (.ref C) := J.type
  have Z3 : Looks (model prog w) hh (fillsNumberSlot (.type "int") "floordiv") true := Looks.of_pure PySem.F.fills_int_floordiv
  have Z4 : Looks (model prog w) hh (fillsNumberSlot (.ref C) "floordiv") true := fills_rev X r
  have Z5 : Looks (model prog w) hh (isSubtype (.ref C) (.type "int")) false := looks_subIn X r.sub
  have Z6 : Looks (model prog w) hh (numberSlotInPython (.type "int") "floordiv") false := Looks.of_pure rfl
  have hne : (Value.type "int" == Value.ref C) = false := Bool.eq_false_iff.mpr fun q => by cases beq_iff_eq.mp q
  simp only [binaryOp, Operator.info]
  refine wpAny_holding (wpAny_bind ?_)
  unfold binaryOp1
  refine wpAny_bind (Z1.at (wpAny_bind (Z2.at ?_)))
  refine wpAny_bind (Z3.at ?_)
  simp only [hne, Bool.false_eq_true, if_false]
  ksp_lk
  refine try_div_no J hd ?_
  generalize dunderR "floordiv" = rn at one ⊢
  ksp_lk
  refine wpAny_mono one (fun r s' hr' => ?_) fun _ _ e => e
  obtain ⟨v, rfl, hq⟩ := hr'
  ksp_lk
  exact hq
theorem int_mod_no {Q : Value → Shared → Prop} (J : InstAt s.heap x ox C od) (hd : ox.data = .plain) (q : Q .notImplemented s) : wpAny (model prog w) A (call (.builtin "int.__mod__") [.int n t, .ref x]) Q E s := by
  refine wpAny_call_entry PySem.F.slot_int_mod (typeIs_int s n t) PySem.F.entry_int_mod ?_ (PySem.F.args_int_mod_2 _ _)
  obtain ⟨hh, g, d, tt, os⟩ := s
  have Y0 : Looks (model prog w) hh (asInt? (.ref x)) none := asInt_no J hd
  unfold Builtin.«int.__mod__»
  repeat lk
  refine wpAny_load J.at_ ?_
  rw [hd]
  repeat lk
  exact ⟨_, rfl, q⟩
theorem try_mod_no {Q : Option Value → Shared → Prop} (J : InstAt s.heap x ox C od) (hd : ox.data = .plain) (q : Q none s) : wpAny (model prog w) A (tryMethod (.int n t) (PySem.dunder "mod") (.ref x)) Q E s := by
  have c1 : wpAny (model prog w) A (call (.builtin "int.__mod__") [.int n t, .ref x]) (fun v s' => v = .notImplemented ∧ Q none s') E s := int_mod_no J hd ⟨rfl, q⟩
  have t1 : s.TypeIs (.int n t) "int" := typeIs_int s n t
  have l1 : Slot "int" (PySem.dunder "mod") "int.__mod__" := PySem.F.slot_int_mod
  generalize PySem.dunder "mod" = nm at l1 ⊢
  exact wpAny_tryMethod_declines t1 l1 c1
theorem bin_rmod {Q : Value → Shared → Prop} (X : K.In s.heap) (J : InstAt s.heap x ox C od) (hd : ox.data = .plain) (r : ROpOf K C "mod" f) (h : wpAny (model prog w) A (call (.ref f) [.ref x, .int n t]) (PySem.W.CmpBack Q) E s) :
    wpAny (model prog w) A (binaryOp .Mod (.int n t) (.ref x)) Q E s := by
  have one := ksp_try X J r.rev r.fn h
  obtain ⟨hh, g, d, tt, os⟩ := s
  have Z1 : Looks (model prog w) hh (typeOf (.int n t)) (.type "int") := Looks.of_pure rfl
  have Z2 : Looks (model prog w) hh (typeOf (.ref x)) (.ref C) := J.type
  have Z3 : Looks (model prog w) hh (fillsNumberSlot (.type "int") "mod") true := Looks.of_pure PySem.F.fills_int_mod
  have Z4 : Looks (model prog w) hh (fillsNumberSlot (.ref C) "mod") true := fills_rev X r
  have Z5 : Looks (model prog w) hh (isSubtype (.ref C) (.type "int")) false := looks_subIn X r.sub
  have Z6 : Looks (model prog w) hh (numberSlotInPython (.type "int") "mod") false := Looks.of_pure rfl
  have hne : (Value.type "int" == Value.ref C) = false := Bool.eq_false_iff.mpr fun q => by cases beq_iff_eq.mp q
  simp only [binaryOp, Operator.info]
  refine wpAny_holding (wpAny_bind ?_)
  unfold binaryOp1
  refine wpAny_bind (Z1.at (wpAny_bind (Z2.at ?_)))
  refine wpAny_bind (Z3.at ?_)
  simp only [hne, Bool.false_eq_true, if_false]
  ksp_lk
  refine try_mod_no J hd ?_
  generalize dunderR "mod" = rn at one ⊢
  ksp_lk
  refine wpAny_mono one (fun r s' hr' => ?_) fun _ _ e => e
  obtain ⟨v, rfl, hq⟩ := hr'
  ksp_lk
  exact hq
end
section
variable {X : Cx} {k j : Nat} {f C : Addr} {ps : List Str} {sp : Sp}
def rRO (C : Addr) (sp : Sp) : R2 := fun x y H Q => ∃ a dx fs n, x = .int n ∧ y = .ref a ∧ H a = some (.ins C dx fs) ∧ sp [.ref a, .int n] H (fun v H' => ∃ i, v = .int i ∧ Q v H') E0
theorem op_rdiv (c : Fr X.prog X.w X.K X.mg X.base k f ps [] sp) (b : ROpOf X.K C "floordiv" f) (hr : Room j X.A) (hk : k ≤ j) : OpR X (binaryOp .FloorDiv) (rRO C sp) := by
  intro pins s σ H x y v u Q I rx ry h
  obtain ⟨a, dx, fs, n, rfl, rfl, ha, q⟩ := h
  obtain rfl : u = Value.ref a := ry
  obtain ⟨t, rfl⟩ := rx
  obtain ⟨mA, O, _, _, _, _⟩ := ins_get I.hok ha
  obtain ⟨od, J, _⟩ := O.look
  refine bin_rdiv I.kIn J rfl b (thn (run_own c hr hk I (.cons (show RelV (.ref a) (Value.ref a) from rfl) (.cons (show RelV (.int n) (Value.int n t) from ⟨t, rfl⟩) .nil)) q) fun r s' hq => ?_)
  obtain ⟨w, H', I', rw_, i, rfl, q'⟩ := hq
  obtain ⟨t', rfl⟩ := rw_
  exact ⟨.int i, H', I', ⟨t', rfl⟩, q'⟩
theorem op_rmod (c : Fr X.prog X.w X.K X.mg X.base k f ps [] sp) (b : ROpOf X.K C "mod" f) (hr : Room j X.A) (hk : k ≤ j) : OpR X (binaryOp .Mod) (rRO C sp) := by
  intro pins s σ H x y v u Q I rx ry h
  obtain ⟨a, dx, fs, n, rfl, rfl, ha, q⟩ := h
  obtain rfl : u = Value.ref a := ry
  obtain ⟨t, rfl⟩ := rx
  obtain ⟨mA, O, _, _, _, _⟩ := ins_get I.hok ha
  obtain ⟨od, J, _⟩ := O.look
  refine bin_rmod I.kIn J rfl b (thn (run_own c hr hk I (.cons (show RelV (.ref a) (Value.ref a) from rfl) (.cons (show RelV (.int n) (Value.int n t) from ⟨t, rfl⟩) .nil)) q) fun r s' hq => ?_)
  obtain ⟨w, H', I', rw_, i, rfl, q'⟩ := hq
  obtain ⟨t', rfl⟩ := rw_
  exact ⟨.int i, H', I', ⟨t', rfl⟩, q'⟩
/-- C.m(e), m a classmethod -/
theorem pe_cmt {e o : Expr} {es : List Expr} {m : Str} {mc : Value} {p : Addr} {pos apos : Pos} {ta : TE} {t : TA} {pl : Sem Bool} (c : Fr X.prog X.w X.K X.mg X.base k f ps [] sp) (r : ClX.CRead X.K C mc) (cm : ClX.CMet X.K C mc m p f) (hr : Room j X.A) (hk : k ≤ j) (he : PE X o ta) (ha : PA X (e :: es) t)
    (hst : starEach (e :: es) X.env = (false, eval e X.env) :: starEach es X.env := by rfl) (hpl : (backTo pos (starEach es X.env)).any (·.1) = false := by rfl)
    (ht : eval (.Call (.Attribute o m apos) (e :: es) [] pos) X.env = (do
      let ov ← eval o X.env
      standAt apos.atName
      let (g, first) ← holding [ov] (getMethod ov m pl)
      callWith pos g first (backTo pos (starEach (e :: es) X.env)) (backToKw pos (keywordEach [] X.env))) := by rfl) :
    PE X (.Call (.Attribute o m apos) (e :: es) [] pos) (ClX.tCMeth C sp E0 ta t) := by
  obtain ⟨fd, ds, ok, b, v⟩ := c.ex
  have F := (FnOk.raw ok b v).imp (sp' := sp) fun vs H Q E h => by
    rw [List.append_nil]
    exact h
  exact ClX.pe_cmeth he r cm F (hr.mono hk) pass0 ha hst hpl ht
end
end LB
set_option Elab.async false
set_option linter.all false
set_option maxRecDepth 100000
set_option maxHeartbeats 4000000
namespace LB
open PySem PySem.Spec PyProof.Rows L2 StX
/-! ## comprehensions over what makes a new pair each turn: enumerate, zip -/
structure PairIt (J : It) (H1 : Hp) (ps : List (V × V)) : Prop where
  go : ∀ H', Same H1 H' → ∀ i, i < ps.length → J.go i H'
  stop : ∀ H', Same H1 H' → ∀ i, ps.length ≤ i → J.stop i H'
  yld : ∀ H', Same H1 H' → ∀ i x H'', i < ps.length → J.yld i H' x H'' → ∃ T p, x = .ref T ∧ H' T = none ∧ ps[i]? = some p ∧ H'' = upd H' T (.tup [p.1, p.2])
section
variable {K : PySem.W.Frag} {H1 : Hp} {σ : L2.St} {Q : VK}
theorem pairIt_enum {a : Addr} {xs : List V} (h : SqL K H1 a xs) : PairIt (Ite K a) H1 (xs.zipIdx.map fun p => (.int ((p.2 : Nat) : Int), p.1)) where
  go := fun H' e i hi => by
    rw [List.length_map, List.length_zipIdx] at hi
    exact ⟨xs, xs[i], e.seq h, List.getElem?_eq_getElem hi⟩
  stop := fun H' e i hi => by
    rw [List.length_map, List.length_zipIdx] at hi
    exact ⟨xs, e.seq h, hi⟩
  yld := fun H' e i x H'' hi y => by
    obtain ⟨T, v, rfl, hT, rfl, hx⟩ := y
    refine ⟨T, (.int ((i : Nat) : Int), v), rfl, hT, ?_, rfl⟩
    rw [List.getElem?_map, List.getElem?_zipIdx, hx xs (e.seq h)]
    simp
theorem pairIt_zip {a b : Addr} {xs ys : List V} (h : SqL K H1 a xs) (h2 : SqL K H1 b ys) : PairIt (Itz K a b) H1 (xs.zip ys) where
  go := fun H' e i hi => by
    rw [List.length_zip] at hi
    exact ⟨xs, ys, xs[i]'(by omega), ys[i]'(by omega), e.seq h, e.seq h2, List.getElem?_eq_getElem _, List.getElem?_eq_getElem _⟩
  stop := fun H' e i hi => by
    rw [List.length_zip] at hi
    exact ⟨xs, ys, e.seq h, e.seq h2, by omega⟩
  yld := fun H' e i x H'' hi y => by
    obtain ⟨T, v, w, rfl, hT, rfl, hx, hy⟩ := y
    refine ⟨T, (v, w), rfl, hT, ?_, rfl⟩
    exact List.getElem?_zip_eq_some.mpr ⟨hx xs (e.seq h), hy ys (e.seq h2)⟩
/-- [e for a, b in ..] without a test: τ is the state behind the target -/
theorem lcP_map {J : It} {ps : List (V × V)} {g : TG} {te : TE} {vs : List Nat} (f : V → V → V) (τ : V → V → L2.St) (hJ : PairIt J H1 ps) (hl : ps.length ≤ sizeLine)
    (hg : ∀ T x y H' (R : L2.St → Hp → Prop), H' T = some (.tup [x, y]) → R (τ x y) H' → g (.ref T) (wipe σ vs) H' R)
    (hel : ∀ p ∈ ps, ∀ H', Same H1 H' → ∀ R : VK, (∀ H'', Same H' H'' → R (f p.1 p.2) H'') → te (τ p.1 p.2) H' R)
    (q : ∀ D H', H1 D = none → Same H1 H' → H' D = some (.lst (ps.map fun p => f p.1 p.2)) → Q (.ref D) H') (hw : ∀ x y, wipe (τ x y) vs = wipe σ vs := by intro _ _; rfl) :
    ∀ D, H1 D = none → ∃ W : Nat → Nat → Hp → Prop, (∃ m, W 0 m (upd H1 D (.lst []))) ∧ ∀ i m H, W i m H →
      (J.stop i H ∧ Q (.ref D) H) ∨ (J.go i H ∧ ∃ Nx : Hp → Prop, (∀ H', Nx H' → ∃ m', m' < m ∧ W (i + 1) m' H') ∧ ∀ x H', J.yld i H x H' → g x (wipe σ vs) H' fun σ2 H2 => wipe σ2 vs = wipe σ vs ∧ tYes σ2 H2 fun b H3 =>
        if b = true then te σ2 H3 fun y H4 => ∃ acc, H4 D = some (.lst acc) ∧ acc.length < sizeLine ∧ Nx (upd H4 D (.lst (acc ++ [y]))) else Nx H3) := by
  intro D hD
  refine ⟨fun i m H => m = ps.length - i ∧ i ≤ ps.length ∧ Same H1 H ∧ H D = some (.lst ((ps.take i).map fun p => f p.1 p.2)), ⟨ps.length, by simp, Nat.zero_le _, same_new hD (Same.refl H1), upd_same⟩, ?_⟩
  rintro i m H ⟨rfl, hi, e, hd⟩
  by_cases hlt : i < ps.length
  · refine .inr ⟨hJ.go H e i hlt, fun H' => Same H1 H' ∧ H' D = some (.lst ((ps.take (i + 1)).map fun p => f p.1 p.2)), fun H' ⟨e', d'⟩ => ⟨ps.length - (i + 1), by omega, rfl, hlt, e', d'⟩, fun x H' y => ?_⟩
    obtain ⟨T, p, rfl, hT, hx, rfl⟩ := hJ.yld H e i x H' hlt y
    have hm : p ∈ ps := List.mem_of_getElem? hx
    have htk : ps.take (i + 1) = ps.take i ++ [p] := by rw [List.take_add_one, hx]; rfl
    have nDT : D ≠ T := ne_of_none hd hT
    have hT1 : H1 T = none := by
      cases c : H1 T with
      | none => rfl
      | some o => rw [e T o c] at hT; cases hT
    refine hg T p.1 p.2 _ _ upd_same ⟨hw _ _, ?_⟩
    simp only [tYes, if_true]
    refine hel p hm _ (same_new hT1 e) _ fun H3 e3 => ⟨(ps.take i).map fun p => f p.1 p.2, e3 _ _ (by rw [upd_ne nDT]; exact hd), ?_, ?_, ?_⟩
    · rw [List.length_map, List.length_take]
      omega
    · exact same_new hD ((same_new hT1 e).trans e3)
    · rw [upd_same, htk, List.map_append]
      rfl
  · have hi' : i = ps.length := by omega
    subst hi'
    refine .inl ⟨hJ.stop H e _ (Nat.le_refl _), q D H hD e ?_⟩
    rw [hd, List.take_length]
end
theorem w_seqP3 {D : Ends} {σ : L2.St} {H : Hp} {u : TS} {i j l : Nat} {ts : TA} (q : tPar3 i j l ts { D with nx := u D } σ H) : tSeq (tPar3 i j l ts) u D σ H := q
theorem w_par3 {D : Ends} {σ : L2.St} {H : Hp} {i j l : Nat} {ts : TA} (q : ts σ H fun vs H1 => ∃ u v w, vs = [u, v, w] ∧ gName i u σ H1 fun σ1 H2 => gName j v σ1 H2 fun σ2 H3 => gName l w σ2 H3 D.nx) : tPar3 i j l ts D σ H := q
theorem w_three {x y z : V} {P : V → V → V → Prop} (q : P x y z) : ∃ u v w, [x, y, z] = [u, v, w] ∧ P u v w := ⟨x, y, z, rfl, q⟩
theorem w_star {K : PySem.W.Frag} {σ : L2.St} {H : Hp} {te : TE} {t : TA} {R : List V → Hp → Prop} (q : te σ H fun x H1 => ∃ p xs, x = V.ref p ∧ (SqT K H1 p xs ∨ SqL K H1 p xs) ∧ t σ H1 fun ys H2 => R (xs ++ ys) H2) : tStar K te t σ H R := q
theorem w_revL {K : PySem.W.Frag} {σ : L2.St} {H : Hp} {Q : VK} {te : TE} (q : te σ H fun x H1 => ∃ a xs, x = .ref a ∧ SqL K H1 a xs ∧ ∀ p, H1 p = none → Q (.ref p) (upd H1 p (.lst xs.reverse))) : tRevL K te σ H Q := q
section
variable {K : PySem.W.Frag} {D : Ends} {σ : L2.St} {H : Hp} {Q : VK} {to te : TE} {t : TA} {a : Addr} {xs : List V} {y : V} {L M : List Int}
theorem w_bmF {T : String} {r : V → List V → Hp → VK → Prop} (q : to σ H fun x H1 => tyV K T x H1 ∧ t σ H1 fun xs H2 => r x xs H2 Q) : tBM K T r to t σ H Q := q
theorem w_tyF {P : Prop} (h : H a = some (.lst xs)) (q : P) : tyV K "list" (.ref a) H ∧ P := ⟨.inl ⟨rfl, _, SqL.of h⟩, q⟩
theorem w_appF (h : H a = some (.lst xs)) (l : xs.length < sizeLine) (q : Q .non (upd H a (.lst (xs ++ [y])))) : rAppend (.ref a) [y] H Q := ⟨a, xs, y, rfl, rfl, h, l, q⟩
theorem w_appI {z : Int} (h : H a = some (.lst (L.map V.int))) (l : L.length < sizeLine) (q : Q .non (upd H a (.lst ((L ++ [z]).map V.int)))) : rAppend (.ref a) [.int z] H Q := by
  refine ⟨a, _, _, rfl, rfl, h, by rw [List.length_map]; exact l, ?_⟩
  rw [List.map_append] at q
  exact q
theorem w_catF {b : Addr} (ha : H a = some (.lst (L.map V.int))) (hb : H b = some (.lst (M.map V.int))) (hl : L.length + M.length ≤ sizeLine) (q : ∀ p, H p = none → Q (.ref p) (upd H p (.lst ((L ++ M).map V.int)))) : rCat (.ref a) (.ref b) H Q := by
  refine ⟨a, b, _, _, rfl, rfl, ha, hb, by rw [List.length_map, List.length_map]; exact hl, fun p hp => ?_⟩
  have := q p hp
  rw [List.map_append] at this
  exact this
theorem rep_map (z : Int) : ∀ n : Nat, (List.replicate n [V.int z]).flatten = (List.replicate n z).map V.int
  | 0 => rfl
  | n + 1 => by
    rw [List.replicate_succ, List.flatten_cons, rep_map z n, List.replicate_succ]
    rfl
end
end LB

namespace LB
open PySem PySem.Spec PyProof.Rows L2
local macro_rules | `(tactic| walk_at "st") => `(tactic| (with_reducible first | refine w_inst ?_ | refine w_instAt ?_))
/-! ### the stepping word -/
local macro_rules | `(tactic| walk_at "hp") => `(tactic| first
  | assumption
  | with_reducible exact upd_same
  | (refine Eq.trans (upd_ne ?_) ?_; (· walk_at "ne"); (· walk_at "hp")))
local macro_rules | `(tactic| walk_at "ne") => `(tactic| first
  | assumption
  | (apply Ne.symm; assumption))
local macro_rules | `(tactic| walk_at "cond") => `(tactic| first
  | assumption
  | with_reducible rfl
  | omega
  | decide
  | (refine And.intro ?_ ?_ <;> first | assumption | omega | decide)
  | (refine Or.inl (Or.inl ⟨?_, ?_⟩) <;> omega)
  | (refine Or.inl (Or.inr ⟨?_, ?_⟩) <;> omega)
  | (refine ⟨?_, ?_, ?_⟩ <;> omega))
local macro_rules | `(tactic| walk_at "len") => `(tactic| (simp only [List.length_cons, List.length_nil, List.length_append]; decide))
local macro_rules | `(tactic| walk_at "st") => `(tactic| first
  | (with_reducible first
  | refine w_seqA ?_ | refine w_seqE ?_ | refine w_seqG ?_ | refine w_seqP ?_ | refine w_par ?_ | refine w_asg ?_ | refine w_ret ?_ | refine w_ifS ?_ | refine w_drop ?_ | refine w_next ?_ | refine w_nx ?_ | refine w_rt ?_ | refine w_bk ?_ | refine w_ct ?_ | refine w_brk ?_ | refine w_cont ?_
  | refine w_op ?_ | refine w_c ?_
  | refine w_v0 ?_ | refine w_v1 ?_ | refine w_v2 ?_ | refine w_v3 ?_ | refine w_v4 ?_ | refine w_v5 ?_ | refine w_v6 ?_ | refine w_v7 ?_ | refine w_v8 ?_ | refine w_v9 ?_ | refine w_v10 ?_ | refine w_v11 ?_ | refine w_v12 ?_
  | refine w_g0 ?_ | refine w_g1 ?_ | refine w_g2 ?_ | refine w_g3 ?_ | refine w_g4 ?_ | refine w_g5 ?_ | refine w_g6 ?_ | refine w_g7 ?_ | refine w_g8 ?_ | refine w_g9 ?_ | refine w_g10 ?_ | refine w_g11 ?_ | refine w_g12 ?_
  | refine w_I0 ?_
  | refine w_cb ?_ | refine w_cons ?_ | refine w_nil ?_
  | refine w_test ?_ | refine w_B ?_ | refine w_bl ?_
  | refine w_un ?_ | refine w_U ?_ | refine w_if ?_ | refine w_andV ?_ | refine w_orV ?_ | refine w_notV ?_
  | refine w_and ?_ | refine w_or ?_ | refine w_not ?_ | refine w_chain ?_
  | refine w_lst ?_ | refine w_tup ?_ | refine w_call ?_ | refine w_callN ?_ | refine w_sl ?_ | refine w_noPart ?_ | refine w_part ?_ | refine w_int ?_ | refine w_two ?_ | refine w_retN ?_
  | refine w_int1 ?_ | refine w_int1b ?_ | refine w_abs ?_ | refine w_isN ?_ | refine w_notN ?_ | refine w_isB ?_ | refine w_isNotB ?_ | refine w_in1 ?_ | refine w_notIn1 ?_ | refine w_gSub ?_ | refine w_iStr ?_ | refine w_str ?_ | refine w_iRng1 ?_ | refine w_iRng2 ?_ | refine w_iList ?_ | refine w_iTup ?_ | refine w_for ?_)
  | ((with_reducible refine' w_ixL ?h ?e ?_); (case h => walk_at "hp"); (case e => exact rfl))
  | ((with_reducible refine' w_ixT ?h ?e ?_); (case h => walk_at "hp"); (case e => exact rfl))
  | ((with_reducible refine' w_lenL ?h ?_); (case h => walk_at "hp"))
  | ((with_reducible refine' w_lenT ?h ?_); (case h => walk_at "hp"))
  | ((with_reducible refine' w_set31 ?h ?_); (case h => walk_at "hp"))
  | ((with_reducible refine' w_set32 ?h ?_); (case h => walk_at "hp"))
  | ((with_reducible refine' w_I ?h ?_); (case h => walk_at "cond"))
  | ((with_reducible refine' w_eq ?h ?_); (case h => exact rfl))
  | ((with_reducible refine' w_ne ?h ?_); (case h => exact rfl))
  | ((with_reducible refine' w_iteT ?h ?_); (case h => exact rfl))
  | ((with_reducible refine' w_iteF ?h ?_); (case h => exact rfl))
  | ((with_reducible refine' w_lstAt ?h ?_); (case h => walk_at "hp"))
  | ((with_reducible refine' w_tupAt ?h ?_); (case h => walk_at "hp"))
  | ((with_reducible refine' w_rng1 ?h ?_); (case h => (constructor <;> omega)))
  | ((with_reducible refine' w_slS ?h ?_); (case h => first | assumption | decide +kernel))
  | ((with_reducible refine' w_lenS ?h ?_); (case h => first | assumption | decide +kernel))
  | ((with_reducible refine' w_addS ?h ?_); (case h => exact addlen (by first | assumption | decide +kernel) (by first | assumption | decide +kernel)))
  | ((with_reducible refine' w_strI ?h ?_); (case h => first | assumption | decide +kernel))
  | ((with_reducible refine' w_mulS ?h ?_); (case h => decide +kernel)))/-! ### .. with objects -/
set_option hygiene false in
local macro_rules | `(tactic| walk_at "na") => `(tactic| first
  | exact T.na_told _ | exact T.na_longest | exact T.na_manyC | exact T.na_manyS | exact T.na_letters _ | exact T.na_own _ | exact T.na_sh_setting | exact T.na_sh_is_hidden | exact T.na_sh_by_word | exact T.na_sh_by_number | exact T.na_sh_grown_now)
set_option hygiene false in
local macro_rules | `(tactic| walk_at "cl") => `(tactic| first | exact T.cl_lim _ | exact T.cl_set _ | exact T.cl_shelf)
set_option hygiene false in
local macro_rules | `(tactic| walk_at "st") => `(tactic| first
  | (with_reducible first
  | refine w_seqF ?_ | refine w_sFld ?_ | refine w_fld ?_ | refine w_con ?_ | refine w_meth ?_ | refine w_prop ?_ | refine w_make ?_ | refine w_dget ?_ | refine w_din ?_ | refine w_dnotin ?_ | refine w_dput ?_ | refine w_seqD ?_ | refine w_gCons ?_ | refine w_gNil ?_)
  | ((with_reducible refine' w_fldAt ?h ?c ?n ?l ?_); (case h => walk_at "hp"); (case c => walk_at "cl"); (case n => walk_at "na"); (case l => exact rfl))
  | ((with_reducible refine' w_sFldAt ?h ?c ?n ?l ?e ?_); (case h => walk_at "hp"); (case c => walk_at "cl"); (case n => walk_at "na"); (case l => first | decide | exact of_decide_eq_true rfl); (case e => exact rfl))
  | ((with_reducible refine' w_methAt ?h ?l ?_); (case h => walk_at "hp"); (case l => exact rfl))
  | ((with_reducible refine' w_propAt ?h ?_); (case h => walk_at "hp"))
  | ((with_reducible refine' w_gTup ?h ?l ?_); (case h => walk_at "hp"); (case l => exact rfl)))

set_option hygiene false in
local macro_rules | `(tactic| walk_at "st") => `(tactic| first
  | (with_reducible first | refine w_aug0 ?_ | refine w_aug1 ?_ | refine w_aug2 ?_ | refine w_aug3 ?_ | refine w_aug4 ?_ | refine w_aug5 ?_ | refine w_aug6 ?_ | refine w_aug7 ?_ | refine w_aug8 ?_ | refine w_aug9 ?_ | refine w_aug10 ?_ | refine w_aug11 ?_ | refine w_aug12 ?_ | refine w_aug13 ?_ | refine w_bmF ?_ | refine w_star ?_ | refine w_seqP3 ?_ | refine w_par3 ?_ | refine w_three ?_)
  | ((with_reducible refine' w_aug ?h ?_); (case h => exact rfl))
  | ((with_reducible refine' w_tyF ?h ?_); (case h => walk_at "hp")))

section Pt_cod0
/-! ### the classes by their names -/
inductive LimK where
  | free | short | cleared | standing
def limNm : LimK → Str
  | .free => "Free"
  | .short => "Short"
  | .cleared => "Cleared"
  | .standing => "Standing"
abbrev cLim (K : PySem.W.Frag) (k : LimK) : Addr := He.ga K (limNm k)
abbrev cSet (K : PySem.W.Frag) (h : Bool) : Addr := He.ga K (match h with | true => "Hidden" | false => "Told")
abbrev cShelf (K : PySem.W.Frag) : Addr := He.ga K "Shelf"
def setWord : Bool → Str
  | true => "hidden"
  | false => "told"
def ClsCon (K : PySem.W.Frag) (C : Addr) (f : Str) (v : V) : Prop := ∃ mc u, ClX.CRead K C mc ∧ ClX.CVal K C mc f v u
def clsConB (K : PySem.W.Frag) (C f : Str) (v : V) : Bool := match PySem.W.findCls K (.ref (He.ga K C)) (.type "type") f with
  | some (.val u) => He.relB v u && (PySem.W.readsIn K (He.ga K C) (.type "type") && He.eqO (PySem.W.specialIn K (.ref (He.ga K C)) "__getattribute__") (some (some (.builtin "type.__getattribute__"))))
  | _ => false
theorem clsCon_ok {K : PySem.W.Frag} {C f : Str} {v : V} (h : clsConB K C f v = true) : ClsCon K (He.ga K C) f v := by
  unfold clsConB at h
  split at h
  · rename_i u e
    obtain ⟨h1, h2⟩ := He.ba h
    obtain ⟨h3, h4⟩ := He.ba h2
    exact ⟨_, u, ⟨h3, He.eqO_ok h4⟩, ⟨e, He.relB_ok h1⟩⟩
  · cases h
def gtA (K : PySem.W.Frag) (C : Addr) (f : Str) : Addr := match PySem.W.recIn K (He.ma K C f) "property" with
  | some (.ref g :: _) => g
  | _ => 0
def propB (K : PySem.W.Frag) (C f : Str) : Bool := He.eqO (PySem.W.findIn K (.ref (He.ga K C)) f) (some (some (.ref (He.ma K (He.ga K C) f)))) &&
  (He.eqO (PySem.W.specialIn K (.ref (He.ma K (He.ga K C) f)) "__get__") (some (some (.builtin "property.__get__"))) && (decide (PySem.W.takesIn K (.ref (He.ma K (He.ga K C) f)) = some true) &&
    match PySem.W.recIn K (He.ma K (He.ga K C) f) "property" with
    | some (.ref _ :: _) => true
    | _ => false))
theorem prop_ok {K : PySem.W.Frag} {C f : Str} (h : propB K C f = true) : PropOf K (He.ga K C) f (He.ma K (He.ga K C) f) (gtA K (He.ga K C) f) := by
  obtain ⟨h1, h2⟩ := He.ba h
  obtain ⟨h3, h4⟩ := He.ba h2
  obtain ⟨h5, h6⟩ := He.ba h4
  refine ⟨He.eqO_ok h1, He.eqO_ok h3, of_decide_eq_true h5, ?_⟩
  unfold gtA
  split at h6
  · rename_i g r e
    rw [e]
    exact ⟨r, rfl⟩
  · cases h6
def callB (K : PySem.W.Frag) (C : Str) : Bool := (He.Fa.meth C "__call__").ok K && PySem.W.fnIn K (He.ma K (He.ga K C) "__call__")
theorem call_ok {K : PySem.W.Frag} {C : Str} (h : callB K C = true) : CallOf K (He.ga K C) (He.ma K (He.ga K C) "__call__") := by
  obtain ⟨h1, h2⟩ := He.ba h
  obtain ⟨a, b, _⟩ := He.meth_ok h1
  exact ⟨a, b, h2⟩
/-- C's instances are D's -/
structure Isa (K : PySem.W.Frag) (C D : Addr) : Prop where
  a1 : PySem.W.findIn K (.ref C) "__class__" = some (some (.builtin "object.__class__"))
  a2 : PySem.W.specialIn K (.builtin "object.__class__") "__get__" = some (some (.builtin "getset_descriptor.__get__"))
  a3 : PySem.W.takesIn K (.builtin "object.__class__") = some true
  a4 : PySem.W.mroIn K C (.type "object") = some true
  a5 : PySem.W.kitOne K (.ref C) (.ref D) = some true
def isaB (K : PySem.W.Frag) (C D : Str) : Bool := He.eqO (PySem.W.findIn K (.ref (He.ga K C)) "__class__") (some (some (.builtin "object.__class__"))) && (He.eqO (PySem.W.specialIn K (.builtin "object.__class__") "__get__") (some (some (.builtin "getset_descriptor.__get__"))) &&
  (decide (PySem.W.takesIn K (.builtin "object.__class__") = some true) && (decide (PySem.W.mroIn K (He.ga K C) (.type "object") = some true) && decide (PySem.W.kitOne K (.ref (He.ga K C)) (.ref (He.ga K D)) = some true))))
theorem isa_ok {K : PySem.W.Frag} {C D : Str} (h : isaB K C D = true) : Isa K (He.ga K C) (He.ga K D) := by
  obtain ⟨h1, h⟩ := He.ba h
  obtain ⟨h2, h⟩ := He.ba h
  obtain ⟨h3, h⟩ := He.ba h
  obtain ⟨h4, h5⟩ := He.ba h
  exact ⟨He.eqO_ok h1, He.eqO_ok h2, of_decide_eq_true h3, of_decide_eq_true h4, of_decide_eq_true h5⟩
theorem w_isaT {K : PySem.W.Frag} {H : Hp} {Q : VK} {a C D dx : Addr} {fs : List (Str × V)} (h : H a = some (.ins C dx fs)) (c : Cls K C) (i : Isa K C D) (q : Q (.bl true) H) : rIsi K [.ref a, .ref D] H Q :=
  ⟨.ref a, .ref D, .ref C, .ref D, true, rfl, .own _, .base (.ins h c i.a1 i.a2 i.a3 i.a4), i.a5, q⟩
def strB (K : PySem.W.Frag) (C : Str) : Bool := (He.Fa.meth C "__str__").ok K
theorem str_ok {K : PySem.W.Frag} {C : Str} (h : strB K C = true) : StrBy K (He.ga K C) (He.ma K (He.ga K C) "__str__") := by
  obtain ⟨a, b, _⟩ := He.meth_ok h
  exact ⟨a, b⟩
def limW : LimK → Str
  | .free => "free"
  | .short => "short"
  | .cleared => "cleared"
  | .standing => "standing"
def fmtB (K : PySem.W.Frag) (C : Str) : Bool := strB K C && (He.eqO (PySem.W.findIn K (.ref (He.ga K C)) "__format__") (some (some (.builtin "object.__format__"))) && decide (PySem.W.mroIn K (He.ga K C) (.type "object") = some true))
theorem fmt_ok {K : PySem.W.Frag} {C : Str} (h : fmtB K C = true) : FmtBy K (He.ga K C) (He.ma K (He.ga K C) "__str__") := by
  obtain ⟨h1, h2⟩ := He.ba h
  obtain ⟨h3, h4⟩ := He.ba h2
  obtain ⟨a, b⟩ := str_ok h1
  exact ⟨a, b, He.eqO_ok h3, of_decide_eq_true h4⟩

end Pt_cod0
section Pt_lev0
/-! ### more of the classes: instances or not, classmethods, constants read off classes, operators -/
structure IsaB (K : PySem.W.Frag) (C D : Addr) (b : Bool) : Prop where
  a1 : PySem.W.findIn K (.ref C) "__class__" = some (some (.builtin "object.__class__"))
  a2 : PySem.W.specialIn K (.builtin "object.__class__") "__get__" = some (some (.builtin "getset_descriptor.__get__"))
  a3 : PySem.W.takesIn K (.builtin "object.__class__") = some true
  a4 : PySem.W.mroIn K C (.type "object") = some true
  a5 : PySem.W.kitOne K (.ref C) (.ref D) = some b
def isaBB (K : PySem.W.Frag) (C D : Str) (b : Bool) : Bool := He.eqO (PySem.W.findIn K (.ref (He.ga K C)) "__class__") (some (some (.builtin "object.__class__"))) && (He.eqO (PySem.W.specialIn K (.builtin "object.__class__") "__get__") (some (some (.builtin "getset_descriptor.__get__"))) &&
  (decide (PySem.W.takesIn K (.builtin "object.__class__") = some true) && (decide (PySem.W.mroIn K (He.ga K C) (.type "object") = some true) && decide (PySem.W.kitOne K (.ref (He.ga K C)) (.ref (He.ga K D)) = some b))))
theorem isaB_ok {K : PySem.W.Frag} {C D : Str} {b : Bool} (h : isaBB K C D b = true) : IsaB K (He.ga K C) (He.ga K D) b := by
  obtain ⟨h1, h⟩ := He.ba h
  obtain ⟨h2, h⟩ := He.ba h
  obtain ⟨h3, h⟩ := He.ba h
  obtain ⟨h4, h5⟩ := He.ba h
  exact ⟨He.eqO_ok h1, He.eqO_ok h2, of_decide_eq_true h3, of_decide_eq_true h4, of_decide_eq_true h5⟩
theorem w_isaB {K : PySem.W.Frag} {H : Hp} {Q : VK} {a C D dx : Addr} {fs : List (Str × V)} {b : Bool} (h : H a = some (.ins C dx fs)) (c : Cls K C) (i : IsaB K C D b) (q : Q (.bl b) H) : rIsi K [.ref a, .ref D] H Q :=
  ⟨.ref a, .ref D, .ref C, .ref D, b, rfl, .own _, .base (.ins h c i.a1 i.a2 i.a3 i.a4), i.a5, q⟩
def kEq : LimK → LimK → Bool
  | .free, .free => true
  | .short, .short => true
  | .cleared, .cleared => true
  | .standing, .standing => true
  | _, _ => false
def readB (K : PySem.W.Frag) (C : Str) : Bool := PySem.W.readsIn K (He.ga K C) (.type "type") && He.eqO (PySem.W.specialIn K (.ref (He.ga K C)) "__getattribute__") (some (some (.builtin "type.__getattribute__")))
theorem read_ok {K : PySem.W.Frag} {C : Str} (h : readB K C = true) : ClX.CRead K (He.ga K C) (.type "type") := by
  obtain ⟨h1, h2⟩ := He.ba h
  exact ⟨h1, He.eqO_ok h2⟩
def cmB (K : PySem.W.Frag) (C m : Str) : Bool := He5.wrapB K (He.ga K C) "classmethod" "classmethod.__get__" m && PySem.W.fnIn K (He5.wf K (He.ga K C) "classmethod" m)
theorem cm_ok {K : PySem.W.Frag} {C m : Str} (h : cmB K C m = true) : ClX.CMet K (He.ga K C) (.type "type") m (He.ma K (He.ga K C) m) (He5.wf K (He.ga K C) "classmethod" m) := by
  obtain ⟨h1, h2⟩ := He.ba h
  exact He5.cmet_of h1 h2
theorem spec_ok {K : PySem.W.Frag} {C m : Str} (h : (He.Fa.meth C m).ok K = true) : SpecOf K (He.ga K C) m (He.ma K (He.ga K C) m) := by
  obtain ⟨a, b, _⟩ := He.meth_ok h
  exact ⟨a, b⟩
def ropB (K : PySem.W.Frag) (C : Str) (nm : String) (m : Str) : Bool := He.eqO (PySem.W.findIn K (.ref (He.ga K C)) (PySem.dunder nm)) (some none) && ((He.Fa.meth C m).ok K && (PySem.W.selfFirst K (He.ga K C) && decide (PySem.W.subIn K (.ref (He.ga K C)) (.type "int") = some false)))
theorem rop_ok {K : PySem.W.Frag} {C : Str} {nm : String} {m : Str} (e : dunderR nm = m) (h : ropB K C nm m = true) : ROpOf K (He.ga K C) nm (He.ma K (He.ga K C) m) := by
  obtain ⟨h1, h⟩ := He.ba h
  obtain ⟨h2, h⟩ := He.ba h
  obtain ⟨h3, h4⟩ := He.ba h
  obtain ⟨a, b, _⟩ := He.meth_ok h2
  exact ⟨He.eqO_ok h1, by rw [e]; exact a, b, h3, of_decide_eq_true h4⟩

end Pt_lev0
section Pt_pre
def top (i : Nat) : Stmt := PySem.Challenge.pw_learntbooks_k45_known_staircases.main.body.getD i (.Pass ⟨0, 0, 0, 0⟩)
abbrev s_is_int : Stmt := top 20
abbrev s_is_between : Stmt := top 21
abbrev s_need_number : Stmt := top 22
abbrev s_need_size : Stmt := top 23
abbrev s_need_letters : Stmt := top 24
abbrev s_signs_of : Stmt := top 25
abbrev s_need_text : Stmt := top 26
abbrev s_number_of : Stmt := top 27
abbrev s_Limit_lets : Stmt := inClass (top 29) 2
abbrev s_Limit_ends_at : Stmt := inClass (top 29) 3
abbrev s_Free___init__ : Stmt := inClass (top 32) 1
abbrev s_Short___init__ : Stmt := inClass (top 33) 2
abbrev s_Short_lets : Stmt := inClass (top 33) 3
abbrev s_Cleared___init__ : Stmt := inClass (top 34) 1
abbrev s_Cleared_ends_at : Stmt := inClass (top 34) 2
abbrev s_Standing___init__ : Stmt := inClass (top 35) 1
abbrev s_Standing_lets : Stmt := inClass (top 35) 2
abbrev s_limit_at : Stmt := top 36
abbrev s_need_setting : Stmt := top 42
abbrev s_Setting___init__ : Stmt := inClass (top 44) 1
abbrev s_Setting_read : Stmt := inClass (top 44) 2
abbrev s_Setting_limit : Stmt := inClass (top 44) 3
abbrev s_setting_at : Stmt := top 47
abbrev s_first_level : Stmt := top 49
abbrev s_filled : Stmt := top 50
abbrev s_filled_but : Stmt := top 51
abbrev s_letters_in : Stmt := top 52
abbrev s_added : Stmt := top 53
abbrev s_spared_counts : Stmt := top 54
abbrev s_spared_for : Stmt := top 55
abbrev s_is_loose : Stmt := top 56
abbrev s_counts_for : Stmt := top 57
abbrev s_least_of : Stmt := top 58
abbrev s_need_told : Stmt := top 59
abbrev s_need_told_of : Stmt := top 60
abbrev s_most_of : Stmt := top 61
abbrev s_longest_code : Stmt := top 62
abbrev s_greatest_of : Stmt := top 63
abbrev s_fewest_of : Stmt := top 64
abbrev s_told_most : Stmt := top 65
abbrev s_told_fewest : Stmt := top 66
abbrev s_Most___init__ : Stmt := inClass (top 67) 0
abbrev s_Most___call__ : Stmt := inClass (top 67) 1
abbrev s_Most___getitem__ : Stmt := inClass (top 67) 2
abbrev s_Most___rfloordiv__ : Stmt := inClass (top 67) 3
abbrev s_Most___rmod__ : Stmt := inClass (top 67) 4
abbrev s_Most___contains__ : Stmt := inClass (top 67) 5
abbrev s_Fewest___init__ : Stmt := inClass (top 68) 0
abbrev s_Fewest___call__ : Stmt := inClass (top 68) 1
abbrev s_Fewest___getitem__ : Stmt := inClass (top 68) 2
abbrev s_Fewest___rfloordiv__ : Stmt := inClass (top 68) 3
abbrev s_Fewest___rmod__ : Stmt := inClass (top 68) 4
abbrev s_Fewest___contains__ : Stmt := inClass (top 68) 5
abbrev s_most : Stmt := top 69
abbrev s_fewest : Stmt := top 70
abbrev s_least_letters : Stmt := top 71
abbrev s_greatest_letters : Stmt := top 72
abbrev s_law_pen : Stmt := top 74
abbrev s_law_draw : Stmt := top 75
abbrev s_law_steps_right : Stmt := top 76
abbrev s_law : Stmt := top 77
theorem sc_is_int : FnScope ["value"] ["value"] (defScope s_is_int) := ⟨rfl, rfl, rfl, by decide +kernel, rfl, by decide +kernel, by decide +kernel⟩
theorem sc_is_between : FnScope ["value", "least", "most"] ["value", "least", "most"] (defScope s_is_between) := ⟨rfl, rfl, rfl, by decide +kernel, rfl, by decide +kernel, by decide +kernel⟩
theorem sc_need_number : FnScope ["value", "least", "most"] ["value", "least", "most"] (defScope s_need_number) := ⟨rfl, rfl, rfl, by decide +kernel, rfl, by decide +kernel, by decide +kernel⟩
theorem sc_need_size : FnScope ["value"] ["value"] (defScope s_need_size) := ⟨rfl, rfl, rfl, by decide +kernel, rfl, by decide +kernel, by decide +kernel⟩
theorem sc_need_letters : FnScope ["value"] ["value"] (defScope s_need_letters) := ⟨rfl, rfl, rfl, by decide +kernel, rfl, by decide +kernel, by decide +kernel⟩
theorem sc_signs_of : FnScope ["letters"] ["letters"] (defScope s_signs_of) := ⟨rfl, rfl, rfl, by decide +kernel, rfl, by decide +kernel, by decide +kernel⟩
theorem sc_need_text : FnScope ["value", "letters", "at", "sign"] ["value", "letters"] (defScope s_need_text) := ⟨rfl, rfl, rfl, by decide +kernel, rfl, by decide +kernel, by decide +kernel⟩
theorem sc_number_of : FnScope ["word", "least", "most", "digits", "number", "sign"] ["word", "least", "most"] (defScope s_number_of) := ⟨rfl, rfl, rfl, by decide +kernel, rfl, by decide +kernel, by decide +kernel⟩
theorem sc_Limit_lets : FnScope ["self", "grown", "size"] ["self", "grown", "size"] (defScope s_Limit_lets) := ⟨rfl, rfl, rfl, by decide +kernel, rfl, by decide +kernel, by decide +kernel⟩
theorem sc_Limit_ends_at : FnScope ["self", "grown"] ["self", "grown"] (defScope s_Limit_ends_at) := ⟨rfl, rfl, rfl, by decide +kernel, rfl, by decide +kernel, by decide +kernel⟩
theorem sc_Free___init__ : FnScope ["self"] ["self"] (defScope s_Free___init__) := ⟨rfl, rfl, rfl, by decide +kernel, rfl, by decide +kernel, by decide +kernel⟩
theorem sc_Short___init__ : FnScope ["self", "longest"] ["self", "longest"] (defScope s_Short___init__) := ⟨rfl, rfl, rfl, by decide +kernel, rfl, by decide +kernel, by decide +kernel⟩
theorem sc_Short_lets : FnScope ["self", "grown", "size"] ["self", "grown", "size"] (defScope s_Short_lets) := ⟨rfl, rfl, rfl, by decide +kernel, rfl, by decide +kernel, by decide +kernel⟩
theorem sc_Cleared___init__ : FnScope ["self", "many"] ["self", "many"] (defScope s_Cleared___init__) := ⟨rfl, rfl, rfl, by decide +kernel, rfl, by decide +kernel, by decide +kernel⟩
theorem sc_Cleared_ends_at : FnScope ["self", "grown"] ["self", "grown"] (defScope s_Cleared_ends_at) := ⟨rfl, rfl, rfl, by decide +kernel, rfl, by decide +kernel, by decide +kernel⟩
theorem sc_Standing___init__ : FnScope ["self", "many"] ["self", "many"] (defScope s_Standing___init__) := ⟨rfl, rfl, rfl, by decide +kernel, rfl, by decide +kernel, by decide +kernel⟩
theorem sc_Standing_lets : FnScope ["self", "grown", "size"] ["self", "grown", "size"] (defScope s_Standing_lets) := ⟨rfl, rfl, rfl, by decide +kernel, rfl, by decide +kernel, by decide +kernel⟩
theorem sc_limit_at : FnScope ["words", "at", "word", "most", "told"] ["words", "at"] (defScope s_limit_at) := ⟨rfl, rfl, rfl, by decide +kernel, rfl, by decide +kernel, by decide +kernel⟩
theorem sc_need_setting : FnScope ["value", "part"] ["value", "part"] (defScope s_need_setting) := ⟨rfl, rfl, rfl, by decide +kernel, rfl, by decide +kernel, by decide +kernel⟩
theorem sc_Setting___init__ : FnScope ["self", "letters", "limit"] ["self", "letters", "limit"] (defScope s_Setting___init__) := ⟨rfl, rfl, rfl, by decide +kernel, rfl, by decide +kernel, by decide +kernel⟩
theorem sc_Setting_read : FnScope ["cls", "text", "words", "found", "at"] ["cls", "text"] (defScope s_Setting_read) := ⟨rfl, rfl, rfl, by decide +kernel, rfl, by decide +kernel, by decide +kernel⟩
theorem sc_Setting_limit : FnScope ["self"] ["self"] (defScope s_Setting_limit) := ⟨rfl, rfl, rfl, by decide +kernel, rfl, by decide +kernel, by decide +kernel⟩
theorem sc_setting_at : FnScope ["words", "at", "word", "letters", "limit", "spot"] ["words", "at"] (defScope s_setting_at) := ⟨rfl, rfl, rfl, by decide +kernel, rfl, by decide +kernel, by decide +kernel⟩
theorem sc_first_level : FnScope ["setting"] ["setting"] (defScope s_first_level) := ⟨rfl, rfl, rfl, by decide +kernel, rfl, by decide +kernel, by decide +kernel⟩
theorem sc_filled : FnScope ["setting", "many", "deepest", "size", "left", "found", "taken"] ["setting", "many", "deepest"] (defScope s_filled) := ⟨rfl, rfl, rfl, by decide +kernel, rfl, by decide +kernel, by decide +kernel⟩
theorem sc_filled_but : FnScope ["letters", "many", "spared", "size", "lost", "left", "found", "taken"] ["letters", "many", "spared"] (defScope s_filled_but) := ⟨rfl, rfl, rfl, by decide +kernel, rfl, by decide +kernel, by decide +kernel⟩
theorem sc_letters_in : FnScope ["counts", "at", "number"] ["counts"] (defScope s_letters_in) := ⟨rfl, rfl, rfl, by decide +kernel, rfl, by decide +kernel, by decide +kernel⟩
theorem sc_added : FnScope ["counts", "others", "size", "first", "last", "one", "other"] ["counts", "others"] (defScope s_added) := ⟨rfl, rfl, rfl, by decide +kernel, rfl, by decide +kernel, by decide +kernel⟩
theorem sc_spared_counts : FnScope ["setting", "many", "spared", "limit", "alike"] ["setting", "many", "spared"] (defScope s_spared_counts) := ⟨rfl, rfl, rfl, by decide +kernel, rfl, by decide +kernel, by decide +kernel⟩
theorem sc_spared_for : FnScope ["setting", "many", "deepest", "best", "found", "spared", "size"] ["setting", "many"] (defScope s_spared_for) := ⟨rfl, rfl, rfl, by decide +kernel, rfl, by decide +kernel, by decide +kernel⟩
theorem sc_is_loose : FnScope ["setting"] ["setting"] (defScope s_is_loose) := ⟨rfl, rfl, rfl, by decide +kernel, rfl, by decide +kernel, by decide +kernel⟩
theorem sc_counts_for : FnScope ["setting", "many", "limit", "whole", "found", "number"] ["setting", "many"] (defScope s_counts_for) := ⟨rfl, rfl, rfl, by decide +kernel, rfl, by decide +kernel, by decide +kernel⟩
theorem sc_least_of : FnScope ["setting", "codes"] ["setting", "codes"] (defScope s_least_of) := ⟨rfl, rfl, rfl, by decide +kernel, rfl, by decide +kernel, by decide +kernel⟩
theorem sc_need_told : FnScope ["setting", "codes"] ["setting", "codes"] (defScope s_need_told) := ⟨rfl, rfl, rfl, by decide +kernel, rfl, by decide +kernel, by decide +kernel⟩
theorem sc_need_told_of : FnScope ["setting", "size"] ["setting", "size"] (defScope s_need_told_of) := ⟨rfl, rfl, rfl, by decide +kernel, rfl, by decide +kernel, by decide +kernel⟩
theorem sc_most_of : FnScope ["setting", "size", "low", "high", "middle"] ["setting", "size"] (defScope s_most_of) := ⟨rfl, rfl, rfl, by decide +kernel, rfl, by decide +kernel, by decide +kernel⟩
theorem sc_longest_code : FnScope ["setting", "limit"] ["setting"] (defScope s_longest_code) := ⟨rfl, rfl, rfl, by decide +kernel, rfl, by decide +kernel, by decide +kernel⟩
theorem sc_greatest_of : FnScope ["setting", "codes", "limit", "rest", "longest"] ["setting", "codes"] (defScope s_greatest_of) := ⟨rfl, rfl, rfl, by decide +kernel, rfl, by decide +kernel, by decide +kernel⟩
theorem sc_fewest_of : FnScope ["setting", "size", "low", "high", "middle"] ["setting", "size"] (defScope s_fewest_of) := ⟨rfl, rfl, rfl, by decide +kernel, rfl, by decide +kernel, by decide +kernel⟩
theorem sc_told_most : FnScope ["setting", "n"] ["setting", "n"] (defScope s_told_most) := ⟨rfl, rfl, rfl, by decide +kernel, rfl, by decide +kernel, by decide +kernel⟩
theorem sc_told_fewest : FnScope ["setting", "n"] ["setting", "n"] (defScope s_told_fewest) := ⟨rfl, rfl, rfl, by decide +kernel, rfl, by decide +kernel, by decide +kernel⟩
theorem sc_Most___init__ : FnScope ["self", "setting"] ["self", "setting"] (defScope s_Most___init__) := ⟨rfl, rfl, rfl, by decide +kernel, rfl, by decide +kernel, by decide +kernel⟩
theorem sc_Most___call__ : FnScope ["self", "n"] ["self", "n"] (defScope s_Most___call__) := ⟨rfl, rfl, rfl, by decide +kernel, rfl, by decide +kernel, by decide +kernel⟩
theorem sc_Most___getitem__ : FnScope ["self", "c"] ["self", "c"] (defScope s_Most___getitem__) := ⟨rfl, rfl, rfl, by decide +kernel, rfl, by decide +kernel, by decide +kernel⟩
theorem sc_Most___rfloordiv__ : FnScope ["self", "number"] ["self", "number"] (defScope s_Most___rfloordiv__) := ⟨rfl, rfl, rfl, by decide +kernel, rfl, by decide +kernel, by decide +kernel⟩
theorem sc_Most___rmod__ : FnScope ["self", "number"] ["self", "number"] (defScope s_Most___rmod__) := ⟨rfl, rfl, rfl, by decide +kernel, rfl, by decide +kernel, by decide +kernel⟩
theorem sc_Most___contains__ : FnScope ["self", "value"] ["self", "value"] (defScope s_Most___contains__) := ⟨rfl, rfl, rfl, by decide +kernel, rfl, by decide +kernel, by decide +kernel⟩
theorem sc_Fewest___init__ : FnScope ["self", "setting"] ["self", "setting"] (defScope s_Fewest___init__) := ⟨rfl, rfl, rfl, by decide +kernel, rfl, by decide +kernel, by decide +kernel⟩
theorem sc_Fewest___call__ : FnScope ["self", "n"] ["self", "n"] (defScope s_Fewest___call__) := ⟨rfl, rfl, rfl, by decide +kernel, rfl, by decide +kernel, by decide +kernel⟩
theorem sc_Fewest___getitem__ : FnScope ["self", "c"] ["self", "c"] (defScope s_Fewest___getitem__) := ⟨rfl, rfl, rfl, by decide +kernel, rfl, by decide +kernel, by decide +kernel⟩
theorem sc_Fewest___rfloordiv__ : FnScope ["self", "number"] ["self", "number"] (defScope s_Fewest___rfloordiv__) := ⟨rfl, rfl, rfl, by decide +kernel, rfl, by decide +kernel, by decide +kernel⟩
theorem sc_Fewest___rmod__ : FnScope ["self", "number"] ["self", "number"] (defScope s_Fewest___rmod__) := ⟨rfl, rfl, rfl, by decide +kernel, rfl, by decide +kernel, by decide +kernel⟩
theorem sc_Fewest___contains__ : FnScope ["self", "value"] ["self", "value"] (defScope s_Fewest___contains__) := ⟨rfl, rfl, rfl, by decide +kernel, rfl, by decide +kernel, by decide +kernel⟩
theorem sc_most : FnScope ["setting", "n"] ["setting", "n"] (defScope s_most) := ⟨rfl, rfl, rfl, by decide +kernel, rfl, by decide +kernel, by decide +kernel⟩
theorem sc_fewest : FnScope ["setting", "n"] ["setting", "n"] (defScope s_fewest) := ⟨rfl, rfl, rfl, by decide +kernel, rfl, by decide +kernel, by decide +kernel⟩
theorem sc_least_letters : FnScope ["setting", "c"] ["setting", "c"] (defScope s_least_letters) := ⟨rfl, rfl, rfl, by decide +kernel, rfl, by decide +kernel, by decide +kernel⟩
theorem sc_greatest_letters : FnScope ["setting", "c"] ["setting", "c"] (defScope s_greatest_letters) := ⟨rfl, rfl, rfl, by decide +kernel, rfl, by decide +kernel, by decide +kernel⟩
theorem sc_law_pen : FnScope ["script"] ["script"] (defScope s_law_pen) := ⟨rfl, rfl, rfl, by decide +kernel, rfl, by decide +kernel, by decide +kernel⟩
theorem sc_law_draw : FnScope ["pen", "many", "digit", "at", "cell", "great", "mixed"] ["pen", "many"] (defScope s_law_draw) := ⟨rfl, rfl, rfl, by decide +kernel, rfl, by decide +kernel, by decide +kernel⟩
theorem sc_law_steps_right : FnScope ["text", "steps", "slow", "made", "rising", "lasting", "at", "size"] ["text", "steps", "slow"] (defScope s_law_steps_right) := ⟨rfl, rfl, rfl, by decide +kernel, rfl, by decide +kernel, by decide +kernel⟩
theorem sc_law : FnScope ["script", "pen", "some", "text", "steps", "slow", "lap", "size", "rising"] ["script"] (defScope s_law) := ⟨rfl, rfl, rfl, by decide +kernel, rfl, by decide +kernel, by decide +kernel⟩
theorem kw0 : KwOk s_most "most" ["setting", "n"] 1 ["n"] [0, 1] := ⟨fun _ _ _ _ _ _ us ws h1 h2 => match us, ws, h1, h2 with | [_], [_], _, _ => rfl⟩
theorem kw1 : KwOk s_least_letters "least_letters" ["setting", "c"] 1 ["c"] [0, 1] := ⟨fun _ _ _ _ _ _ us ws h1 h2 => match us, ws, h1, h2 with | [_], [_], _, _ => rfl⟩
theorem kw2 : KwOk s_fewest "fewest" ["setting", "n"] 1 ["n"] [0, 1] := ⟨fun _ _ _ _ _ _ us ws h1 h2 => match us, ws, h1, h2 with | [_], [_], _, _ => rfl⟩
theorem kw3 : KwOk s_greatest_letters "greatest_letters" ["setting", "c"] 1 ["c"] [0, 1] := ⟨fun _ _ _ _ _ _ us ws h1 h2 => match us, ws, h1, h2 with | [_], [_], _, _ => rfl⟩
/-- what the walk asks of the module's names -/
structure Txt (K : PySem.W.Frag) (mg : Str → Option Value) : Prop where
  n_abs : mg "abs" = none
  n_all : mg "all" = none
  n_bool : mg "bool" = none
  n_enumerate : mg "enumerate" = none
  n_int : mg "int" = none
  n_isinstance : mg "isinstance" = none
  n_len : mg "len" = none
  n_list : mg "list" = none
  n_max : mg "max" = none
  n_min : mg "min" = none
  n_range : mg "range" = none
  n_str : mg "str" = none
  n_sum : mg "sum" = none
  n_zip : mg "zip" = none
  g_LEAST_LETTERS : ∃ u, mg "LEAST_LETTERS" = some u ∧ RelV (.int (2)) u
  g_MOST_FIGURES : ∃ u, mg "MOST_FIGURES" = some u ∧ RelV (.int (60)) u
  g_MOST_LETTERS : ∃ u, mg "MOST_LETTERS" = some u ∧ RelV (.int (26)) u
  g_MOST_SIZE : ∃ u, mg "MOST_SIZE" = some u ∧ RelV (.int (1000000000000000000000000000000)) u
  g_MOST_TEXT : ∃ u, mg "MOST_TEXT" = some u ∧ RelV (.int (5000)) u
  g_SIGNS : ∃ u, mg "SIGNS" = some u ∧ RelV (.str "abcdefghijklmnopqrstuvwxyz") u
  cl_lim : ∀ k : LimK, Cls K (cLim K k)
  na_told : ∀ k : LimK, NoAttr K (cLim K k) "told"
  na_longest : NoAttr K (cLim K .short) "longest"
  na_manyC : NoAttr K (cLim K .cleared) "many"
  na_manyS : NoAttr K (cLim K .standing) "many"
  mk_lim : ∀ k : LimK, Mk K (cLim K k) (He.ma K (cLim K k) "__init__")
  gc_lim : ∀ k : LimK, mg (limNm k) = some (.ref (cLim K k))
  isa_lim : ∀ k : LimK, Isa K (cLim K k) (He.ga K "Limit")
  gc_Limit : mg "Limit" = some (.ref (He.ga K "Limit"))
  gc_Counted : mg "Counted" = some (.ref (He.ga K "Counted"))
  most_s : ClsCon K (He.ga K "Short") "MOST" (.int 64)
  most_c : ClsCon K (He.ga K "Counted") "MOST" (.int 4096)
  cl_set : ∀ h : Bool, Cls K (cSet K h)
  na_letters : ∀ h : Bool, NoAttr K (cSet K h) "letters"
  na_own : ∀ h : Bool, NoAttr K (cSet K h) "own_limit"
  mk_set : ∀ h : Bool, Mk K (cSet K h) (He.ma K (cSet K h) "__init__")
  gc_Hidden : mg "Hidden" = some (.ref (cSet K true))
  gc_Told : mg "Told" = some (.ref (cSet K false))
  pr_limit : ∀ h : Bool, PropOf K (cSet K h) "limit" (He.ma K (cSet K h) "limit") (gtA K (cSet K h) "limit")
  gc_Setting : mg "Setting" = some (.ref (He.ga K "Setting"))
  gc_few : mg "Fewest" = some (.ref (He.ga K "Fewest"))
  cl_few : Cls K (He.ga K "Fewest")
  na_few_setting : NoAttr K (He.ga K "Fewest") "setting"
  mk_few : Mk K (He.ga K "Fewest") (He.ma K (He.ga K "Fewest") "__init__")
  ca_few : CallOf K (He.ga K "Fewest") (He.ma K (He.ga K "Fewest") "__call__")
  isa_k : ∀ k d : LimK, IsaB K (cLim K k) (cLim K d) (kEq k d)
  isa_set : ∀ h : Bool, Isa K (cSet K h) (He.ga K "Setting")
  cr_Setting : ClX.CRead K (He.ga K "Setting") (.type "type")
  cm_read : ClX.CMet K (He.ga K "Setting") (.type "type") "read" (He.ma K (He.ga K "Setting") "read") (He5.wf K (He.ga K "Setting") "classmethod" "read")
  cw_lim : ∀ k : LimK, ClsCon K (cLim K k) "WORD" (.str (limW k))
  cw_set : ∀ h : Bool, ClsCon K (cSet K h) "WORD" (.str (setWord h))
  sp_few_item : SpecOf K (He.ga K "Fewest") "__getitem__" (He.ma K (He.ga K "Fewest") "__getitem__")
  sp_few_in : SpecOf K (He.ga K "Fewest") "__contains__" (He.ma K (He.ga K "Fewest") "__contains__")
  fi_few_item : PySem.W.fnIn K (He.ma K (He.ga K "Fewest") "__getitem__") = true
  sp_few_rdiv : ROpOf K (He.ga K "Fewest") "floordiv" (He.ma K (He.ga K "Fewest") "__rfloordiv__")
  sp_few_rmod : ROpOf K (He.ga K "Fewest") "mod" (He.ma K (He.ga K "Fewest") "__rmod__")
  gc_filled : mg "filled" = some (.ref (He.ga K "filled"))
  kp_filled : PySem.W.keepIn K (.ref (He.ga K "filled")) = true
  isa_hid : ∀ h : Bool, IsaB K (cSet K h) (cSet K true) h
  gc_mst : mg "Most" = some (.ref (He.ga K "Most"))
  cl_mst : Cls K (He.ga K "Most")
  na_mst_setting : NoAttr K (He.ga K "Most") "setting"
  mk_mst : Mk K (He.ga K "Most") (He.ma K (He.ga K "Most") "__init__")
  ca_mst : CallOf K (He.ga K "Most") (He.ma K (He.ga K "Most") "__call__")
  sp_mst_item : SpecOf K (He.ga K "Most") "__getitem__" (He.ma K (He.ga K "Most") "__getitem__")
  sp_mst_in : SpecOf K (He.ga K "Most") "__contains__" (He.ma K (He.ga K "Most") "__contains__")
  fi_mst_item : PySem.W.fnIn K (He.ma K (He.ga K "Most") "__getitem__") = true
  sp_mst_rdiv : ROpOf K (He.ga K "Most") "floordiv" (He.ma K (He.ga K "Most") "__rfloordiv__")
  sp_mst_rmod : ROpOf K (He.ga K "Most") "mod" (He.ma K (He.ga K "Most") "__rmod__")

end Pt_pre
def gfs : List (PySem.W.Frag → Bool) := [
  fun K => (He.Fa.glo "is_int").ok K,
  fun K => (He.Fa.glo "number_of").ok K,
  fun K => (He.Fa.glo "need_setting").ok K,
  fun K => (He.Fa.glo "first_level").ok K,
  fun K => (He.Fa.glo "filled_but").ok K,
  fun K => (He.Fa.glo "letters_in").ok K,
  fun K => (He.Fa.glo "added").ok K,
  fun K => (He.Fa.glo "_law_pen").ok K,
  fun K => (He.Fa.glo "_law_draw").ok K,
  fun K => (He.Fa.glo "is_between").ok K,
  fun K => (He.Fa.glo "need_number").ok K,
  fun K => (He.Fa.glo "need_letters").ok K,
  fun K => (He.Fa.glo "spared_counts").ok K,
  fun K => (He.Fa.glo "is_loose").ok K,
  fun K => (He.Fa.glo "longest_code").ok K,
  fun K => (He.Fa.glo "need_size").ok K,
  fun K => (He.Fa.glo "limit_at").ok K,
  fun K => (He.Fa.glo "spared_for").ok K,
  fun K => (He.Fa.glo "need_told").ok K,
  fun K => (He.Fa.glo "greatest_of").ok K,
  fun K => (He.Fa.glo "fewest_of").ok K,
  fun K => (He.Fa.glo "setting_at").ok K,
  fun K => (He.Fa.glo "counts_for").ok K,
  fun K => (He.Fa.glo "told_fewest").ok K,
  fun K => (He.Fa.glo "least_of").ok K,
  fun K => (He.Fa.glo "greatest_letters").ok K,
  fun K => (He.Fa.glo "need_told_of").ok K,
  fun K => (He.Fa.glo "most_of").ok K,
  fun K => (He.Fa.glo "fewest").ok K,
  fun K => (He.Fa.glo "told_most").ok K,
  fun K => (He.Fa.glo "least_letters").ok K,
  fun K => (He.Fa.glo "most").ok K,
  fun K => (He.Fa.glo "_law_steps_right").ok K,
  fun K => (He.Fa.glo "law").ok K,
  fun K => (He.Fa.free "abs").ok K,
  fun K => (He.Fa.free "all").ok K,
  fun K => (He.Fa.free "bool").ok K,
  fun K => (He.Fa.free "enumerate").ok K,
  fun K => (He.Fa.free "int").ok K,
  fun K => (He.Fa.free "isinstance").ok K,
  fun K => (He.Fa.free "len").ok K,
  fun K => (He.Fa.free "list").ok K,
  fun K => (He.Fa.free "max").ok K,
  fun K => (He.Fa.free "min").ok K,
  fun K => (He.Fa.free "range").ok K,
  fun K => (He.Fa.free "str").ok K,
  fun K => (He.Fa.free "sum").ok K,
  fun K => (He.Fa.free "zip").ok K,
  fun K => (He.Fa.int "LEAST_LETTERS" (2)).ok K,
  fun K => (He.Fa.int "MOST_FIGURES" (60)).ok K,
  fun K => (He.Fa.int "MOST_LETTERS" (26)).ok K,
  fun K => (He.Fa.int "MOST_SIZE" (1000000000000000000000000000000)).ok K,
  fun K => (He.Fa.int "MOST_TEXT" (5000)).ok K,
  fun K => (He.Fa.str "SIGNS" "abcdefghijklmnopqrstuvwxyz").ok K,
  fun K => (He.Fa.cls "Free").ok K,
  fun K => (He.Fa.cls "Short").ok K,
  fun K => (He.Fa.cls "Cleared").ok K,
  fun K => (He.Fa.cls "Standing").ok K,
  fun K => (He.Fa.noat "Free" "told").ok K,
  fun K => (He.Fa.noat "Short" "told").ok K,
  fun K => (He.Fa.noat "Cleared" "told").ok K,
  fun K => (He.Fa.noat "Standing" "told").ok K,
  fun K => (He.Fa.noat "Short" "longest").ok K,
  fun K => (He.Fa.noat "Cleared" "many").ok K,
  fun K => (He.Fa.noat "Standing" "many").ok K,
  fun K => (He.Fa.mkr "Free").ok K,
  fun K => (He.Fa.mkr "Short").ok K,
  fun K => (He.Fa.mkr "Cleared").ok K,
  fun K => (He.Fa.mkr "Standing").ok K,
  fun K => (He.Fa.glo "Free").ok K,
  fun K => (He.Fa.glo "Short").ok K,
  fun K => (He.Fa.glo "Cleared").ok K,
  fun K => (He.Fa.glo "Standing").ok K,
  fun K => isaB K "Free" "Limit",
  fun K => isaB K "Short" "Limit",
  fun K => isaB K "Cleared" "Limit",
  fun K => isaB K "Standing" "Limit",
  fun K => (He.Fa.glo "Limit").ok K,
  fun K => (He.Fa.glo "Counted").ok K,
  fun K => clsConB K "Short" "MOST" (.int 64),
  fun K => clsConB K "Counted" "MOST" (.int 4096),
  fun K => (He.Fa.cls "Hidden").ok K,
  fun K => (He.Fa.cls "Told").ok K,
  fun K => (He.Fa.noat "Hidden" "letters").ok K,
  fun K => (He.Fa.noat "Told" "letters").ok K,
  fun K => (He.Fa.noat "Hidden" "own_limit").ok K,
  fun K => (He.Fa.noat "Told" "own_limit").ok K,
  fun K => (He.Fa.mkr "Hidden").ok K,
  fun K => (He.Fa.mkr "Told").ok K,
  fun K => (He.Fa.glo "Hidden").ok K,
  fun K => (He.Fa.glo "Told").ok K,
  fun K => propB K "Hidden" "limit",
  fun K => propB K "Told" "limit",
  fun K => (He.Fa.glo "Setting").ok K,
  fun K => (He.Fa.glo "Fewest").ok K,
  fun K => (He.Fa.cls "Fewest").ok K,
  fun K => (He.Fa.noat "Fewest" "setting").ok K,
  fun K => (He.Fa.mkr "Fewest").ok K,
  fun K => callB K "Fewest",
  fun K => isaBB K "Free" "Free" true,
  fun K => isaBB K "Free" "Short" false,
  fun K => isaBB K "Free" "Cleared" false,
  fun K => isaBB K "Free" "Standing" false,
  fun K => isaBB K "Short" "Free" false,
  fun K => isaBB K "Short" "Short" true,
  fun K => isaBB K "Short" "Cleared" false,
  fun K => isaBB K "Short" "Standing" false,
  fun K => isaBB K "Cleared" "Free" false,
  fun K => isaBB K "Cleared" "Short" false,
  fun K => isaBB K "Cleared" "Cleared" true,
  fun K => isaBB K "Cleared" "Standing" false,
  fun K => isaBB K "Standing" "Free" false,
  fun K => isaBB K "Standing" "Short" false,
  fun K => isaBB K "Standing" "Cleared" false,
  fun K => isaBB K "Standing" "Standing" true,
  fun K => isaB K "Hidden" "Setting",
  fun K => isaB K "Told" "Setting",
  fun K => readB K "Setting",
  fun K => cmB K "Setting" "read",
  fun K => clsConB K "Free" "WORD" (.str "free"),
  fun K => clsConB K "Short" "WORD" (.str "short"),
  fun K => clsConB K "Cleared" "WORD" (.str "cleared"),
  fun K => clsConB K "Standing" "WORD" (.str "standing"),
  fun K => clsConB K "Hidden" "WORD" (.str "hidden"),
  fun K => clsConB K "Told" "WORD" (.str "told"),
  fun K => (He.Fa.meth "Fewest" "__getitem__").ok K,
  fun K => (He.Fa.meth "Fewest" "__contains__").ok K,
  fun K => PySem.W.fnIn K (He.ma K (He.ga K "Fewest") "__getitem__"),
  fun K => ropB K "Fewest" "floordiv" "__rfloordiv__",
  fun K => ropB K "Fewest" "mod" "__rmod__",
  fun K => (He.Fa.glo "filled").ok K,
  fun K => PySem.W.keepIn K (.ref (He.ga K "filled")),
  fun K => isaBB K "Hidden" "Hidden" true,
  fun K => isaBB K "Told" "Hidden" false,
  fun K => (He.Fa.glo "Most").ok K,
  fun K => (He.Fa.cls "Most").ok K,
  fun K => (He.Fa.noat "Most" "setting").ok K,
  fun K => (He.Fa.mkr "Most").ok K,
  fun K => callB K "Most",
  fun K => (He.Fa.meth "Most" "__getitem__").ok K,
  fun K => (He.Fa.meth "Most" "__contains__").ok K,
  fun K => PySem.W.fnIn K (He.ma K (He.ga K "Most") "__getitem__"),
  fun K => ropB K "Most" "floordiv" "__rfloordiv__",
  fun K => ropB K "Most" "mod" "__rmod__"]
def gd0 : GD := ⟨fun K => He.ga K "is_int", "is_int", "is_int", s_is_int, []⟩
def gd1 : GD := ⟨fun K => He.ga K "number_of", "number_of", "number_of", s_number_of, []⟩
def gd2 : GD := ⟨fun K => He.ma K (cLim K .free) "__init__", "__init__", "Free.__init__", s_Free___init__, []⟩
def gd3 : GD := ⟨fun K => He.ga K "need_setting", "need_setting", "need_setting", s_need_setting, []⟩
def gd4 : GD := ⟨fun K => He.ga K "first_level", "first_level", "first_level", s_first_level, []⟩
def gd5 : GD := ⟨fun K => He.ga K "filled_but", "filled_but", "filled_but", s_filled_but, []⟩
def gd6 : GD := ⟨fun K => He.ga K "letters_in", "letters_in", "letters_in", s_letters_in, []⟩
def gd7 : GD := ⟨fun K => He.ga K "added", "added", "added", s_added, []⟩
def gd8 : GD := ⟨fun K => He.ga K "_law_pen", "_law_pen", "_law_pen", s_law_pen, []⟩
def gd9 : GD := ⟨fun K => He.ga K "_law_draw", "_law_draw", "_law_draw", s_law_draw, []⟩
def gd10 : GD := ⟨fun K => He.ga K "is_between", "is_between", "is_between", s_is_between, []⟩
def gd11 : GD := ⟨fun K => He.ma K (He.ga K "Most") "__init__", "__init__", "Most.__init__", s_Most___init__, []⟩
def gd12 : GD := ⟨fun K => He.ma K (He.ga K "Fewest") "__init__", "__init__", "Fewest.__init__", s_Fewest___init__, []⟩
def gd13 : GD := ⟨fun K => He.ga K "need_number", "need_number", "need_number", s_need_number, []⟩
def gd14 : GD := ⟨fun K => He.ga K "need_letters", "need_letters", "need_letters", s_need_letters, []⟩
def gd15 : GD := ⟨fun K => He.ma K (cLim K .short) "__init__", "__init__", "Short.__init__", s_Short___init__, []⟩
def gd16 : GD := ⟨fun K => He.ma K (cLim K .cleared) "__init__", "__init__", "Cleared.__init__", s_Cleared___init__, []⟩
def gd17 : GD := ⟨fun K => He.ma K (cLim K .standing) "__init__", "__init__", "Standing.__init__", s_Standing___init__, []⟩
def gd18 : GD := ⟨fun K => He.ga K "spared_counts", "spared_counts", "spared_counts", s_spared_counts, []⟩
def gd19 : GD := ⟨fun K => He.ga K "is_loose", "is_loose", "is_loose", s_is_loose, []⟩
def gd20 : GD := ⟨fun K => He.ga K "longest_code", "longest_code", "longest_code", s_longest_code, []⟩
def gd21 : GD := ⟨fun K => He.ga K "need_size", "need_size", "need_size", s_need_size, []⟩
def gd22 : GD := ⟨fun K => He.ga K "limit_at", "limit_at", "limit_at", s_limit_at, []⟩
def gd23 : GD := ⟨fun K => He.ga K "spared_for", "spared_for", "spared_for", s_spared_for, []⟩
def gd24 : GD := ⟨fun K => He.ga K "need_told", "need_told", "need_told", s_need_told, []⟩
def gd25 : GD := ⟨fun K => He.ga K "greatest_of", "greatest_of", "greatest_of", s_greatest_of, []⟩
def gd26 : GD := ⟨fun K => He.ga K "fewest_of", "fewest_of", "fewest_of", s_fewest_of, []⟩
def gd27 : GD := ⟨fun K => He.ma K (He.ga K "Fewest") "__getitem__", "__getitem__", "Fewest.__getitem__", s_Fewest___getitem__, []⟩
def gd28 : GD := ⟨fun K => He.ga K "setting_at", "setting_at", "setting_at", s_setting_at, []⟩
def gd29 : GD := ⟨fun K => He.ga K "counts_for", "counts_for", "counts_for", s_counts_for, []⟩
def gd30 : GD := ⟨fun K => He.ga K "told_fewest", "told_fewest", "told_fewest", s_told_fewest, []⟩
def gd31 : GD := ⟨fun K => He5.wf K (He.ga K "Setting") "classmethod" "read", "read", "Setting.read", s_Setting_read, []⟩
def gd32 : GD := ⟨fun K => He.ga K "least_of", "least_of", "least_of", s_least_of, []⟩
def gd33 : GD := ⟨fun K => He.ma K (He.ga K "Fewest") "__call__", "__call__", "Fewest.__call__", s_Fewest___call__, []⟩
def gd34 : GD := ⟨fun K => He.ma K (He.ga K "Fewest") "__rfloordiv__", "__rfloordiv__", "Fewest.__rfloordiv__", s_Fewest___rfloordiv__, []⟩
def gd35 : GD := ⟨fun K => He.ma K (He.ga K "Fewest") "__rmod__", "__rmod__", "Fewest.__rmod__", s_Fewest___rmod__, []⟩
def gd36 : GD := ⟨fun K => He.ma K (He.ga K "Fewest") "__contains__", "__contains__", "Fewest.__contains__", s_Fewest___contains__, []⟩
def gd37 : GD := ⟨fun K => He.ga K "greatest_letters", "greatest_letters", "greatest_letters", s_greatest_letters, []⟩
def gd38 : GD := ⟨fun K => He.ma K (He.ga K "Most") "__getitem__", "__getitem__", "Most.__getitem__", s_Most___getitem__, []⟩
def gd39 : GD := ⟨fun K => He.ga K "need_told_of", "need_told_of", "need_told_of", s_need_told_of, []⟩
def gd40 : GD := ⟨fun K => He.ga K "most_of", "most_of", "most_of", s_most_of, []⟩
def gd41 : GD := ⟨fun K => He.ga K "fewest", "fewest", "fewest", s_fewest, []⟩
def gd42 : GD := ⟨fun K => He.ga K "told_most", "told_most", "told_most", s_told_most, []⟩
def gd43 : GD := ⟨fun K => He.ga K "least_letters", "least_letters", "least_letters", s_least_letters, []⟩
def gd44 : GD := ⟨fun K => He.ma K (He.ga K "Most") "__call__", "__call__", "Most.__call__", s_Most___call__, []⟩
def gd45 : GD := ⟨fun K => He.ma K (He.ga K "Most") "__rfloordiv__", "__rfloordiv__", "Most.__rfloordiv__", s_Most___rfloordiv__, []⟩
def gd46 : GD := ⟨fun K => He.ma K (He.ga K "Most") "__rmod__", "__rmod__", "Most.__rmod__", s_Most___rmod__, []⟩
def gd47 : GD := ⟨fun K => He.ma K (He.ga K "Most") "__contains__", "__contains__", "Most.__contains__", s_Most___contains__, []⟩
def gd48 : GD := ⟨fun K => He.ga K "most", "most", "most", s_most, []⟩
def gd49 : GD := ⟨fun K => He.ga K "_law_steps_right", "_law_steps_right", "_law_steps_right", s_law_steps_right, []⟩
def gd50 : GD := ⟨fun K => He.ga K "law", "law", "law", s_law, []⟩
def gd51 : GD := ⟨fun K => gtA K (cSet K true) "limit", "limit", "Setting.limit", s_Setting_limit, []⟩
def gd52 : GD := ⟨fun K => gtA K (cSet K false) "limit", "limit", "Setting.limit", s_Setting_limit, []⟩
def gd53 : GD := ⟨fun K => He.ma K (cSet K true) "__init__", "__init__", "Setting.__init__", s_Setting___init__, [.non]⟩
def gd54 : GD := ⟨fun K => He.ma K (cSet K false) "__init__", "__init__", "Setting.__init__", s_Setting___init__, [.non]⟩
def gd55 : GD := ⟨fun K => He.ga K "filled", "filled", "filled", s_filled, [.non]⟩
def gds : List GD := [gd0, gd1, gd2, gd3, gd4, gd5, gd6, gd7, gd8, gd9, gd10, gd11, gd12, gd13, gd14, gd15, gd16, gd17, gd18, gd19, gd20, gd21, gd22, gd23, gd24, gd25, gd26, gd27, gd28, gd29, gd30, gd31, gd32, gd33, gd34, gd35, gd36, gd37, gd38, gd39, gd40, gd41, gd42, gd43, gd44, gd45, gd46, gd47, gd48, gd49, gd50, gd51, gd52, gd53, gd54, gd55]
abbrev RR : PySem.W.OpenRow := PySem.W.OpenLaw.row PySem.Challenge.rw_learntbooks_k45_known_staircases
/-- the addresses that are reached, each once: seen is a row of bits -/
def newA : List Addr → Nat → List Addr → Nat × List Addr
  | [], seen, acc => (seen, acc)
  | a :: r, seen, acc => bif Nat.beq ((seen >>> a) % 2) 1 then newA r seen acc else newA r (seen ||| (1 <<< a)) (a :: acc)
def bfsA (g : Addr → Option Obj) : Nat → Nat → List Addr → List Addr
  | 0, _, fr => fr
  | n + 1, seen, fr => match newA (fr.flatMap fun a => match g a with | some o => He.refsD o | none => []) seen [] with
    | (seen', new) => fr ++ bfsA g n seen' new
def asL (g : Addr → Option Obj) (n : Nat) : List Addr := bfsA g n (1 <<< mainGlobals) [mainGlobals]
def gobsC (n : Nat) (fs : List (PySem.W.Frag → Bool)) (ds : List GD) (g : Addr → Option Obj) : GV := gobs fs ds (He.frG g (cStatics :: asL g n))
def ghookC (n : Nat) (fs : List (PySem.W.Frag → Bool)) (ds : List GD) : PySem.W.Hook where
  α := GV
  val := fun _ => gval ds
  obs := fun sh => gobsC n fs ds sh.heap.get?
  says := fun _ hp => ∃ K : PySem.W.Frag, K.In hp ∧ GSays fs ds K
  of := fun _ _ q => ⟨_, He.frG_in, q⟩
  keeps := fun _ _ _ ⟨K, i, c⟩ q => ⟨K, PySem.W.Frag.In.keeps i q, c⟩
theorem gobsC_eq {n : Nat} {fs : List (PySem.W.Frag → Bool)} {ds : List GD} {g : Addr → Option Obj} {sh : Shared} (h : ∀ a, g a = sh.heap.get? a) : gobsC n fs ds g = (ghookC n fs ds).obs sh := by
  obtain rfl : g = sh.heap.get? := funext h
  rfl
abbrev hk : PySem.W.Hook := ghookC 6 gfs gds
def ob (s : PySem.W.SharedT) : GV := gobsC 6 gfs gds (HandSHeadRun.getT s)
theorem ob_eq (s : PySem.W.SharedT) : ob s = hk.obs s.abs := gobsC_eq (HandSHeadRun.getT_eq s)
def loose0 : List PySem.Str := ["_wall", "LearnError", "BadInput", "Refused", "BadLetters", "BadLimit", "BadNumber", "BadSetting", "BadSign", "BadText", "TooMany", "Unfit", "SIGNS", "LEAST_LETTERS", "MOST_LETTERS", "MOST_TEXT", "MOST_SIZE", "MOST_FIGURES", "is_int", "is_between", "need_number", "need_size", "need_letters", "signs_of", "need_text", "number_of", "Limit", "count_words", "Counted", "Free"]
def loose1 : List PySem.Str := ["Short", "Cleared", "Standing", "limit_at", "Shelf", "works", "row_by", "need_setting", "need_limit", "Setting", "Hidden", "Told", "setting_at", "first_level", "filled", "filled_but", "letters_in", "added", "spared_counts", "spared_for", "is_loose", "counts_for", "least_of", "need_told", "need_told_of", "most_of", "longest_code", "greatest_of", "fewest_of", "told_most"]
def loose2 : List PySem.Str := ["told_fewest", "Most", "Fewest", "most", "fewest", "least_letters", "greatest_letters", "_law_pen", "_law_draw", "_law_steps_right"]
def loose : List PySem.Str := loose0 ++ loose1 ++ loose2
theorem run (w : World) : HandSHeadRun.RunEq RR (PySem.W.view RR.prog [77]) hk ob 40000 loose w := by
  intro os
  kernel_rfl
section Pt_augs
/-! ### x op= e by the slot -/
section
variable {D : Ends} {H : Hp} {te : TE} {ti : TIp} {x : V} {rs : L2.St} {a0 a1 a2 a3 a4 a5 a6 a7 a8 a9 a10 a11 a12 a13 : Option V}
theorem w_aug0 (q : te (some x :: rs) H fun y H1 => ti x y H1 fun z H2 => D.nx (some z :: rs) H2) : tAug 0 te ti D (some x :: rs) H := ⟨x, rfl, q⟩
theorem w_aug1 (q : te (a0 :: some x :: rs) H fun y H1 => ti x y H1 fun z H2 => D.nx (a0 :: some z :: rs) H2) : tAug 1 te ti D (a0 :: some x :: rs) H := ⟨x, rfl, q⟩
theorem w_aug2 (q : te (a0 :: a1 :: some x :: rs) H fun y H1 => ti x y H1 fun z H2 => D.nx (a0 :: a1 :: some z :: rs) H2) : tAug 2 te ti D (a0 :: a1 :: some x :: rs) H := ⟨x, rfl, q⟩
theorem w_aug3 (q : te (a0 :: a1 :: a2 :: some x :: rs) H fun y H1 => ti x y H1 fun z H2 => D.nx (a0 :: a1 :: a2 :: some z :: rs) H2) : tAug 3 te ti D (a0 :: a1 :: a2 :: some x :: rs) H := ⟨x, rfl, q⟩
theorem w_aug4 (q : te (a0 :: a1 :: a2 :: a3 :: some x :: rs) H fun y H1 => ti x y H1 fun z H2 => D.nx (a0 :: a1 :: a2 :: a3 :: some z :: rs) H2) : tAug 4 te ti D (a0 :: a1 :: a2 :: a3 :: some x :: rs) H := ⟨x, rfl, q⟩
theorem w_aug5 (q : te (a0 :: a1 :: a2 :: a3 :: a4 :: some x :: rs) H fun y H1 => ti x y H1 fun z H2 => D.nx (a0 :: a1 :: a2 :: a3 :: a4 :: some z :: rs) H2) : tAug 5 te ti D (a0 :: a1 :: a2 :: a3 :: a4 :: some x :: rs) H := ⟨x, rfl, q⟩
theorem w_aug6 (q : te (a0 :: a1 :: a2 :: a3 :: a4 :: a5 :: some x :: rs) H fun y H1 => ti x y H1 fun z H2 => D.nx (a0 :: a1 :: a2 :: a3 :: a4 :: a5 :: some z :: rs) H2) : tAug 6 te ti D (a0 :: a1 :: a2 :: a3 :: a4 :: a5 :: some x :: rs) H := ⟨x, rfl, q⟩
theorem w_aug7 (q : te (a0 :: a1 :: a2 :: a3 :: a4 :: a5 :: a6 :: some x :: rs) H fun y H1 => ti x y H1 fun z H2 => D.nx (a0 :: a1 :: a2 :: a3 :: a4 :: a5 :: a6 :: some z :: rs) H2) : tAug 7 te ti D (a0 :: a1 :: a2 :: a3 :: a4 :: a5 :: a6 :: some x :: rs) H := ⟨x, rfl, q⟩
theorem w_aug8 (q : te (a0 :: a1 :: a2 :: a3 :: a4 :: a5 :: a6 :: a7 :: some x :: rs) H fun y H1 => ti x y H1 fun z H2 => D.nx (a0 :: a1 :: a2 :: a3 :: a4 :: a5 :: a6 :: a7 :: some z :: rs) H2) : tAug 8 te ti D (a0 :: a1 :: a2 :: a3 :: a4 :: a5 :: a6 :: a7 :: some x :: rs) H := ⟨x, rfl, q⟩
theorem w_aug9 (q : te (a0 :: a1 :: a2 :: a3 :: a4 :: a5 :: a6 :: a7 :: a8 :: some x :: rs) H fun y H1 => ti x y H1 fun z H2 => D.nx (a0 :: a1 :: a2 :: a3 :: a4 :: a5 :: a6 :: a7 :: a8 :: some z :: rs) H2) : tAug 9 te ti D (a0 :: a1 :: a2 :: a3 :: a4 :: a5 :: a6 :: a7 :: a8 :: some x :: rs) H := ⟨x, rfl, q⟩
theorem w_aug10 (q : te (a0 :: a1 :: a2 :: a3 :: a4 :: a5 :: a6 :: a7 :: a8 :: a9 :: some x :: rs) H fun y H1 => ti x y H1 fun z H2 => D.nx (a0 :: a1 :: a2 :: a3 :: a4 :: a5 :: a6 :: a7 :: a8 :: a9 :: some z :: rs) H2) : tAug 10 te ti D (a0 :: a1 :: a2 :: a3 :: a4 :: a5 :: a6 :: a7 :: a8 :: a9 :: some x :: rs) H := ⟨x, rfl, q⟩
theorem w_aug11 (q : te (a0 :: a1 :: a2 :: a3 :: a4 :: a5 :: a6 :: a7 :: a8 :: a9 :: a10 :: some x :: rs) H fun y H1 => ti x y H1 fun z H2 => D.nx (a0 :: a1 :: a2 :: a3 :: a4 :: a5 :: a6 :: a7 :: a8 :: a9 :: a10 :: some z :: rs) H2) : tAug 11 te ti D (a0 :: a1 :: a2 :: a3 :: a4 :: a5 :: a6 :: a7 :: a8 :: a9 :: a10 :: some x :: rs) H := ⟨x, rfl, q⟩
theorem w_aug12 (q : te (a0 :: a1 :: a2 :: a3 :: a4 :: a5 :: a6 :: a7 :: a8 :: a9 :: a10 :: a11 :: some x :: rs) H fun y H1 => ti x y H1 fun z H2 => D.nx (a0 :: a1 :: a2 :: a3 :: a4 :: a5 :: a6 :: a7 :: a8 :: a9 :: a10 :: a11 :: some z :: rs) H2) : tAug 12 te ti D (a0 :: a1 :: a2 :: a3 :: a4 :: a5 :: a6 :: a7 :: a8 :: a9 :: a10 :: a11 :: some x :: rs) H := ⟨x, rfl, q⟩
theorem w_aug13 (q : te (a0 :: a1 :: a2 :: a3 :: a4 :: a5 :: a6 :: a7 :: a8 :: a9 :: a10 :: a11 :: a12 :: some x :: rs) H fun y H1 => ti x y H1 fun z H2 => D.nx (a0 :: a1 :: a2 :: a3 :: a4 :: a5 :: a6 :: a7 :: a8 :: a9 :: a10 :: a11 :: a12 :: some z :: rs) H2) : tAug 13 te ti D (a0 :: a1 :: a2 :: a3 :: a4 :: a5 :: a6 :: a7 :: a8 :: a9 :: a10 :: a11 :: a12 :: some x :: rs) H := ⟨x, rfl, q⟩
end
theorem pe_fldK {K : PySem.W.Frag} {X : Cx} {e : Expr} {f : Str} {ta : TE} {pos : Pos} (hK : X.K = K) (he : PE X e ta) (hb : attributeBase e f X.env (eval e X.env) = eval e X.env) : PE X (.Attribute e f pos) (tFld K ta f) := hK ▸ pe_fld he hb
theorem cr_sumK {K : PySem.W.Frag} {X : Cx} (hK : X.K = K) (hc : X.calm = true) : CallR X (.builtin "sum") (rSum K) := hK ▸ cr_sum hc
theorem cr_maxK {K : PySem.W.Frag} {X : Cx} (hK : X.K = K) (hc : X.calm = true) : CallR X (.builtin "max") (rMax K) := hK ▸ cr_max hc
theorem cr_minK {K : PySem.W.Frag} {X : Cx} (hK : X.K = K) (hc : X.calm = true) : CallR X (.builtin "min") (rMin K) := hK ▸ cr_min hc

end Pt_augs
section Pt_kwmk
/-! ### C(k = v, ..): keywords alone -/
section
variable (P : Program) (w : World) (K : PySem.W.Frag) (mg : Str → Option Value) (base : Heap)
/-- an __init__, called with the new instance and the keywords ks -/
structure FrK (k : Nat) (f : Addr) (ps ks : List Str) (ix : List Nat) (sp : Sp) : Prop where
  ex : ∃ fd : FuncData, FnOk P w K mg base CX0 k f fd ps sp ∧ KBn K fd ps 1 ks (fun us ws => sel ix (us ++ ws)) (fun vs zs => sel ix (vs ++ zs))
end
theorem frk_of {P : Program} {w : World} {K : PySem.W.Frag} {mg : Str → Option Value} {base : Heap} {x q : Str} {st : Stmt} {ps ks N : List Str} {sp : Sp} {k : Nat} {f : Addr} {ix : List Nat} (F : FA K x q st [] f)
    (hb : ∀ (kV doc pm : Value) (an : Option Addr) (cdv ct : Value) (us ws : List Value), us.length = 1 → ws.length = ks.length → bindArgs (PySem.W.fnOf x q (defArgs st) (defBody st) (defScope st) .none kV doc pm an cdv ct) ⟨us, ks.zip ws⟩ = pure (ps.zip (sel ix (us ++ ws))))
    (S : FnScope N ps (defScope st)) (len : ∀ vs H Q E, sp vs H Q E → vs.length = ps.length) (hbody : BodyOk P w K mg base k q st N sp) : FrK P w K mg base (k + 1) f ps ks ix sp := by
  obtain ⟨fd, F⟩ := F
  have ok := F.ok S len fun cdv A outer s H vs Q E hr h => hbody f cdv A outer s H vs Q E hr h
  obtain ⟨oc, od, dV, kV, doc, pm, an, cdv, ct, osl, rfl, lk, hcd, hD, hK⟩ := F.ex
  rcases hD with ⟨_, rfl⟩ | ⟨e, _⟩
  · exact ⟨_, ok, ⟨fun s us ws _ l1 l2 => .of_eq (hb kV doc pm an cdv ct us ws l1 l2), fun r1 r2 => sel_rel (r1.append r2) ix⟩⟩
  · exact absurd rfl e
theorem pe_mkK {X : Cx} {k j : Nat} {f C : Addr} {ps ks : List Str} {sp : Sp} {x : Str} {p pos : Pos} {tk : TA} {kws : List Keyword} {ix : List Nat} (c : FrK X.prog X.w X.K X.mg X.base k f ps ks ix sp) (M : Mk X.K C f) (hm : X.mg x = some (.ref C)) (hr : Room j X.A) (hk : k + 1 ≤ j) (hg : Gl X x) (hkw : PK X kws tk)
    (hall : (backToKw pos (keywordEach kws X.env)).all (·.1.isSome) = true := by rfl) (hks : (backToKw pos (keywordEach kws X.env)).filterMap (·.1) = ks := by rfl)
    (hdb : (x == ("__debug__" : Str)) = false := by decide)
    (hpl : ((backTo pos (starEach [] X.env)).any (·.1) || (backToKw pos (keywordEach kws X.env)).any (·.1.isNone)) = false := by rfl) :
    PE X (.Call (.Name x p) [] kws pos) (tMakeN C 0 ks.length sp (fun vs zs => sel ix (vs ++ zs)) E0 tNil tk) := by
  obtain ⟨fd, ok, hb⟩ := c.ex
  refine ⟨fun pins s σ H Q I h => ?_⟩
  refine wpAny_Call_Name_kw (ld_glob I hg hm ?_ hdb)
  refine PySem.W.callWith_KW0 (h₀ := X.base) I.ok.mod.kin M.kp hall ?_ hpl
  obtain h : tk σ H fun zs H2 => ([] : List V).length = 0 ∧ zs.length = ks.length ∧ ∀ x dx : Addr, H2 x = none → H2 dx = none → dx ≠ x → sp (sel ix ([V.ref x] ++ zs)) (upd (upd H2 dx (.own x)) x (.ins C dx [])) (fun v H3 => v = .non ∧ Q (.ref x) H3) E0 := h
  refine thn (hkw.run pos pins s σ H _ I h) fun ws s2 ⟨zs, H2, I2, rz, l1, l2, q2⟩ => ⟨I2.kIn, ?_⟩
  rw [hks]
  exact run_makeN M ok (hr.mono hk) hb pass0 I2 .nil rz l1 l2 q2
theorem w_makeN {C : Addr} {n m : Nat} {sp : Sp} {gV : List V → List V → List V} {E : XK} {t tk : TA} {σ : L2.St} {H : Hp} {Q : VK} (q : t σ H fun vs H1 => tk σ H1 fun zs H2 => vs.length = n ∧ zs.length = m ∧
  ∀ x dx, H2 x = none → H2 dx = none → dx ≠ x → sp (gV (.ref x :: vs) zs) (upd (upd H2 dx (.own x)) x (.ins C dx [])) (fun v H3 => v = .non ∧ Q (.ref x) H3) E) : tMakeN C n m sp gV E t tk σ H Q := q

end Pt_kwmk
section Pt_seq
/-! ### lists or tuples of ints -/
def Seq2 (H : Hp) (x : V) (xs : List V) : Prop := ∃ a, x = .ref a ∧ (H a = some (.lst xs) ∨ H a = some (.tup xs))
theorem Seq2.same {H H' : Hp} {x : V} {xs : List V} (e : Same H H') (h : Seq2 H x xs) : Seq2 H' x xs := let ⟨a, h1, h2⟩ := h; ⟨a, h1, h2.elim (fun h => .inl (e _ _ h)) fun h => .inr (e _ _ h)⟩
theorem Seq2.row {K : PySem.W.Frag} {H : Hp} {x : V} {xs : List V} (h : Seq2 H x xs) : Row K H x xs := by
  obtain ⟨a, rfl, h | h⟩ := h
  · exact .lst (SqL.of h)
  · exact .tup (SqT.of h)
theorem for_ite {K : PySem.W.Frag} {a : Addr} {xs : List V} {g : TG} {tb : TS} {D : Ends} {σ : L2.St} {H : Hp} (Pv : Nat → L2.St → Hp → Prop) (h0 : Pv 0 σ H) (hl : ∀ i σ H, Pv i σ H → SqL K H a xs)
    (hs : ∀ i x T σ H, xs[i]? = some x → Pv i σ H → H T = none → g (.ref T) σ (upd H T (.tup [.int (i : Nat), x])) fun σ2 H2 => tb { D with nx := Pv (i + 1), ct := Pv (i + 1), bk := D.nx } σ2 H2) (hd : ∀ σ H, Pv xs.length σ H → D.nx σ H) :
    ∃ W : Nat → Nat → L2.St → Hp → Prop, (∃ m, W 0 m σ H) ∧ ∀ i m σ H, W i m σ H →
      ((Ite K a).stop i H ∧ D.nx σ H) ∨ ((Ite K a).go i H ∧ ∃ N : L2.St → Hp → Prop, (∀ σ' H', N σ' H' → ∃ m', m' < m ∧ W (i + 1) m' σ' H') ∧ ∀ x H', (Ite K a).yld i H x H' → g x σ H' fun σ2 H2 => tb { D with nx := N, ct := N, bk := D.nx } σ2 H2) := by
  refine ⟨fun i m σ H => m = xs.length - i ∧ i ≤ xs.length ∧ Pv i σ H, ⟨xs.length, by simp, Nat.zero_le _, h0⟩, ?_⟩
  rintro i m σ H ⟨rfl, hi, p⟩
  have q := hl i σ H p
  rcases Nat.lt_or_ge i xs.length with c | c
  · refine .inr ⟨⟨xs, xs[i], q, List.getElem?_eq_getElem c⟩, Pv (i + 1), fun σ' H' p' => ⟨xs.length - (i + 1), by omega, rfl, c, p'⟩, fun x H' y => ?_⟩
    obtain ⟨T, x', rfl, hT, rfl, hx⟩ := y
    exact hs i x' T σ H (hx xs q) p hT
  · obtain rfl : i = xs.length := by omega
    exact .inl ⟨⟨xs, q, Nat.le_refl _⟩, hd σ H p⟩
section
variable {K : PySem.W.Frag} {σ : L2.St} {H : Hp} {Q : VK} {x : V} {xs : List V} {ta : TA} {ts te : TE} {g : TG} {tb : TS} {D : Ends} {k : Nat} {vs : List Nat}
theorem for_enum2 (h : Seq2 H x xs) (hta : ∀ R : List V → Hp → Prop, R [x] H → ta σ H R) (Pv : Nat → L2.St → Hp → Prop) (h0 : Pv 0 σ H) (hS : ∀ i σ H', Pv i σ H' → ∀ a o, x = .ref a → H a = some o → H' a = some o)
    (hs : ∀ i y T σ H, xs[i]? = some y → Pv i σ H → H T = none → g (.ref T) σ (upd H T (.tup [.int (i : Nat), y])) fun σ2 H2 => tb { D with nx := Pv (i + 1), ct := Pv (i + 1), bk := D.nx } σ2 H2) (hd : ∀ σ H, Pv xs.length σ H → D.nx σ H) :
    tFor (iTwo (iEnum K ta) (iEnumT K ta)) g tb D σ H := by
  obtain ⟨a, rfl, h | h⟩ := h
  · exact w_for (.inl (hta _ ⟨a, xs, rfl, SqL.of h, for_ite Pv h0 (fun i σ H' p => SqL.of (hS i σ H' p _ _ rfl h)) hs hd⟩))
  · exact w_for (.inr (hta _ ⟨a, xs, rfl, SqT.of h, for_itw Pv h0 (fun i σ H' p => SqT.of (hS i σ H' p _ _ rfl h)) hs hd⟩))
theorem lc_seq (f : V → V) (h : Seq2 H x xs) (hts : ∀ R : VK, R x H → ts σ H R) (hl : xs.length ≤ sizeLine)
    (hel : ∀ y ∈ xs, ∀ H', Same H H' → ∀ R : VK, (∀ H'', Same H' H'' → R (f y) H'') → te ((wipe σ vs).set k (some y)) H' R)
    (q : ∀ D H', H D = none → Same H H' → H' D = some (.lst (xs.map f)) → Q (.ref D) H') (hw : ∀ v, wipe ((wipe σ vs).set k (some v)) vs = wipe σ vs := by intro _; rfl) :
    tLc (iTwo (iList K ts) (iTup K ts)) (gName k) tYes te vs σ H Q := by
  obtain ⟨a, rfl, h | h⟩ := h
  · exact w_lc (.inl (hts _ ⟨a, rfl, ⟨xs, SqL.of h⟩, lcI_map f (pureIt_list (SqL.of h)) hl hel q hw⟩))
  · exact w_lc (.inr (hts _ ⟨a, rfl, ⟨xs, SqT.of h⟩, lcI_map f (pureIt_tup (SqT.of h)) hl hel q hw⟩))
theorem w_lenSq (h : Seq2 H x xs) (q : Q (.int xs.length) H) : rLenQ K [x] H Q := by
  obtain ⟨a, rfl, h | h⟩ := h
  · exact ⟨a, xs, rfl, .inl (SqL.of h), q⟩
  · exact ⟨a, xs, rfl, .inr (SqT.of h), q⟩
theorem w_listSq (h : Seq2 H x xs) (q : ∀ l, H l = none → Q (.ref l) (upd H l (.lst xs))) : rListOf K [x] H Q := by
  obtain ⟨a, rfl, h | h⟩ := h
  · exact ⟨a, xs, rfl, .inl (SqL.of h), q⟩
  · exact ⟨a, xs, rfl, .inr (SqT.of h), q⟩
/-- isinstance(x, (list, tuple)) -/
theorem w_isiSq (h : Seq2 H x xs) {tp : Addr} (htp : H tp = some (.tup [.ty "list", .ty "tuple"])) (q : Q (.bl true) H) : rIsiT K [x, .ref tp] H Q := by
  obtain ⟨a, rfl, h | h⟩ := h
  · exact ⟨.ref a, tp, _, .type "list", [.type "list", .type "tuple"], true, rfl, htp, .cons (.ty _) (.cons (.ty _) .nil), (BV.lst h).ty, kitAny_cons (b := true) (kit_ty (by decide +kernel)) (fun z => nomatch z) (fun _ => rfl), q⟩
  · exact ⟨.ref a, tp, _, .type "tuple", [.type "list", .type "tuple"], true, rfl, htp, .cons (.ty _) (.cons (.ty _) .nil), (BV.tup h).ty, kitAny_cons (b := false) (kit_ty (by decide +kernel)) (fun _ => kitAny_cons (b := true) (kit_ty (by decide +kernel)) (fun z => nomatch z) (fun _ => rfl)) (fun _ => rfl), q⟩
end
theorem w_disp {σ : L2.St} {H : Hp} {Q : VK} {trs : List (TE × TE)} (q : ∀ p, H p = none → tPairs trs σ (upd H p (.dK [])) fun ps H2 => H2 p = some (.dK []) ∧ ∃ kvs : List (Key × V), ps = kvs.map (fun kv => (kV kv.1, kv.2)) ∧ kvs.length ≤ 15 ∧ Q (.ref p) (upd H2 p (.dK (mergeK [] kvs)))) : tDisp trs σ H Q := q
theorem w_pc {σ : L2.St} {H : Hp} {tk tv : TE} {r : List (TE × TE)} {R : List (V × V) → Hp → Prop} (q : tk σ H fun x H1 => tv σ H1 fun y H2 => tPairs r σ H2 fun ps H3 => R ((x, y) :: ps) H3) : tPairs ((tk, tv) :: r) σ H R := q
theorem w_pn {σ : L2.St} {H : Hp} {R : List (V × V) → Hp → Prop} (q : R [] H) : tPairs [] σ H R := q
theorem w_dget2 {σ : L2.St} {H : Hp} {Q : VK} {td ty tx : TE} (q : td σ H fun x H1 => ∃ a, x = .ref a ∧ IsD H1 a ∧ ty σ H1 fun y H2 => tx σ H2 fun z H3 => ∃ o, DGet H3 a y o ∧ Q (o.getD z) H3) : tDGet2 td ty tx σ H Q := q

end Pt_seq
section Pt_chk
/-! ### checks.py -/
def spIsInt : Sp := fun vs H Q _ => ∃ x n, vs = [x] ∧ BV H x n ∧ Q (.bl (isIntV x)) H
def spBetween : Sp := fun vs H Q _ => ∃ x n lo hi, vs = [x, .int lo, .int hi] ∧ BV H x n ∧ Q (.bl (betV lo hi x)) H
def spNeedL : Sp := fun vs H Q _ => ∃ q : Int, vs = [.int q] ∧ 2 ≤ q ∧ q ≤ 26 ∧ Q .non H
section
variable {P : Program} {w : World} {K : PySem.W.Frag} {mg : Str → Option Value} {base : Heap}
theorem d_is_int (T : Txt K mg) (F : FD K mg "is_int" s_is_int) : Dn P w K mg base 1 "is_int" s_is_int ["value"] (spIsInt) := by
  refine dn_of F (fun _ _ _ _ _ _ us hl => match us, hl with | [_], _ => rfl) sc_is_int (fun vs H Q E h => ?_) (fun fa cdv A outer s H vs Q E hr h => ?_)
  · obtain ⟨x, n, rfl, _⟩ := h
    rfl
  · obtain ⟨x, n, rfl, b, k⟩ := h
    refine ⟨_, PSs.nox (pss_one (ps_ret (pe_and (pe_callB call_isi (by rfl) T.n_isinstance (by decide +kernel) (pa_cons (pv 0) (pa_cons (pe_bltn (v := .ty "int") (by rfl) T.n_int (by decide +kernel) rfl) pa_nil))) (pe_one (pe_not (pe_callB call_isi (by rfl) T.n_isinstance (by decide +kernel) (pa_cons (pv 0) (pa_cons (pe_bltn (v := .ty "bool") (by rfl) T.n_bool (by decide +kernel) rfl) pa_nil)))))))), ?_⟩
    refine w_start (σ := [some x]) rfl ?_
    repeat walk_at "st"
    refine w_isiInt b ?_
    cases b <;> (repeat walk_at "st")
    all_goals (first | exact k | (refine w_isiBool (by first | exact .int _ | exact .bl _) ?_; repeat walk_at "st"; exact k))
theorem d_is_between (T : Txt K mg) (F : FD K mg "is_between" s_is_between) (c_is_int : Dn P w K mg base 1 "is_int" s_is_int ["value"] (spIsInt)) : Dn P w K mg base 2 "is_between" s_is_between ["value", "least", "most"] (spBetween) := by
  refine dn_of F (fun _ _ _ _ _ _ us hl => match us, hl with | [_, _, _], _ => rfl) sc_is_between (fun vs H Q E h => ?_) (fun fa cdv A outer s H vs Q E hr h => ?_)
  · obtain ⟨x, n, lo, hi, rfl, _⟩ := h
    rfl
  · obtain ⟨x, n, lo, hi, rfl, b, k⟩ := h
    refine ⟨_, PSs.nox (pss_one (ps_ret (pe_and (pe_d c_is_int hr (by decide) rfl (pa_cons (pv 0) pa_nil)) (pe_one (pe_chain op_le op_le (pv 1) (pv 0) (pv 2)))))), ?_⟩
    refine w_start (σ := [some x, some (.int lo), some (.int hi)]) rfl ?_
    repeat walk_at "st"
    refine ⟨x, n, rfl, b, ?_⟩
    cases b <;> (repeat walk_at "st")
    all_goals try exact k
    rename_i i
    refine w_ite (fun h1 => ?_) (fun h1 => ?_)
    · repeat walk_at "st"
      rw [show betV lo hi (.int i) = decide (i ≤ hi) by show (decide (lo ≤ i) && decide (i ≤ hi)) = _; rw [decide_eq_true h1, Bool.true_and]] at k
      exact k
    · repeat walk_at "st"
      rw [show betV lo hi (.int i) = false by show (decide (lo ≤ i) && decide (i ≤ hi)) = _; rw [decide_eq_false h1, Bool.false_and]] at k
      exact k
theorem d_need_letters (T : Txt K mg) (F : FD K mg "need_letters" s_need_letters) (c_is_between : Dn P w K mg base 2 "is_between" s_is_between ["value", "least", "most"] (spBetween)) : Dn P w K mg base 3 "need_letters" s_need_letters ["value"] (spNeedL) := by
  refine dn_of F (fun _ _ _ _ _ _ us hl => match us, hl with | [_], _ => rfl) sc_need_letters (fun vs H Q E h => ?_) (fun fa cdv A outer s H vs Q E hr h => ?_)
  · obtain ⟨q, rfl, _⟩ := h
    rfl
  · obtain ⟨q, rfl, h1, h2, k⟩ := h
    refine ⟨_, PSs.nox (pss_one (ps_if (pt_not (pt_val (pe_d c_is_between hr (by decide) rfl (pa_cons (pv 0) (pa_cons (pe_gv rfl T.g_LEAST_LETTERS) (pa_cons (pe_gv rfl T.g_MOST_LETTERS) pa_nil)))) (by intro _; rfl)))
 (pss_one ps_never)
 pss_nil)), ?_⟩
    refine w_start (σ := [some (.int q)]) rfl ?_
    repeat walk_at "st"
    refine ⟨.int q, "int", 2, 26, rfl, .int q, ?_⟩
    have e : betV 2 26 (.int q) = true := by
      show (decide (2 ≤ q) && decide (q ≤ 26)) = true
      rw [decide_eq_true h1, decide_eq_true h2]
      rfl
    repeat walk_at "st"
    refine w_iteF (by rw [e]; rfl) ?_
    repeat walk_at "st"
    exact k
/-- the letters a to z -/
def abcL : List Nat := (List.range 26).map (97 + ·)
theorem abc_S : (("abcdefghijklmnopqrstuvwxyz" : Str)) = SX.S abcL := by decide +kernel
def spSigns : Sp := fun vs H Q _ => ∃ q : Int, vs = [.int q] ∧ 2 ≤ q ∧ q ≤ 26 ∧ Q (.str (SX.S (abcL.take q.toNat))) H
theorem d_signs_of (T : Txt K mg) (F : FD K mg "signs_of" s_signs_of) (c_need_letters : Dn P w K mg base 3 "need_letters" s_need_letters ["value"] (spNeedL)) : Dn P w K mg base 4 "signs_of" s_signs_of ["letters"] (spSigns) := by
  refine dn_of F (fun _ _ _ _ _ _ us hl => match us, hl with | [_], _ => rfl) sc_signs_of (fun vs H Q E h => ?_) (fun fa cdv A outer s H vs Q E hr h => ?_)
  · obtain ⟨q, rfl, _⟩ := h
    rfl
  · obtain ⟨q, rfl, h1, h2, k⟩ := h
    refine ⟨_, PSs.nox (pss_cons (ps_expr (pe_d c_need_letters hr (by decide) rfl (pa_cons (pv 0) pa_nil)))
 (pss_one (ps_ret (pe_slice sl_str (pe_gv rfl T.g_SIGNS) po_none (po_some (pv 0)))))), ?_⟩
    refine w_start (σ := [some (.int q)]) rfl ?_
    repeat walk_at "st"
    refine ⟨q, rfl, h1, h2, ?_⟩
    repeat walk_at "st"
    rw [abc_S, cutS_to (by omega)]
    exact k
end

end Pt_chk
section Pt_cod
/-! ### the coder, plainly -/
abbrev Wd := List Nat
/-- a setting -/
structure Sg where
  hid : Bool
  q : Nat
  lk : LimK
  ln : Int
def letsK (k : LimK) (n g z : Int) : Bool := match k with
  | .short => decide (z ≤ n)
  | .standing => decide (g < n)
  | _ => true
def endsK (k : LimK) (n g : Int) : Bool := match k with
  | .cleared => decide (g ≥ n)
  | _ => false
def firstW (S : Sg) : List Wd := if S.hid = true then (abcL.take S.q).map fun c => [c] else [[]]
def szOf (S : Sg) (w : Wd) : Int := if S.hid = true then w.length else w.length + 1
/-- a book while it is coded -/
structure Shf where
  ws : List Wd
  g : Int
def wgrow (S : Sg) (st : Shf) (w : Wd) : Bool := !decide (w ∈ st.ws) && letsK S.lk S.ln st.g (szOf S w)
def growS (S : Sg) (st : Shf) (w : Wd) : Shf := if endsK S.lk S.ln (st.g + 1) = true then ⟨firstW S, 0⟩ else ⟨st.ws ++ [w], st.g + 1⟩
/-- the longest beginning of r that is known: from s letters on -/
def lsz (L : List Wd) (r : Wd) : Nat → Nat → Nat
  | 0, s => s
  | f + 1, s => if s < r.length ∧ r.take (s + 1) ∈ L then lsz L r f (s + 1) else s
theorem lsz_le (L : List Wd) (r : Wd) : ∀ f s, s ≤ r.length → lsz L r f s ≤ r.length
  | 0, s, h => h
  | f + 1, s, h => by
    unfold lsz
    by_cases c : s < r.length ∧ r.take (s + 1) ∈ L
    · rw [if_pos c]
      exact lsz_le L r f (s + 1) c.1
    · rw [if_neg c]
      exact h
theorem lsz_ge (L : List Wd) (r : Wd) : ∀ f s, s ≤ lsz L r f s
  | 0, s => Nat.le_refl s
  | f + 1, s => by
    unfold lsz
    by_cases c : s < r.length ∧ r.take (s + 1) ∈ L
    · rw [if_pos c]
      exact Nat.le_trans (Nat.le_succ s) (lsz_ge L r f (s + 1))
    · rw [if_neg c]
      exact Nat.le_refl s
theorem lsz_in (L : List Wd) (r : Wd) : ∀ f s, r.take s ∈ L → r.take (lsz L r f s) ∈ L
  | 0, s, h => h
  | f + 1, s, h => by
    unfold lsz
    by_cases c : s < r.length ∧ r.take (s + 1) ∈ L
    · rw [if_pos c]
      exact lsz_in L r f (s + 1) c.2
    · rw [if_neg c]
      exact h
def bas (S : Sg) : Nat := if S.hid = true then 1 else 0
def lgst (S : Sg) (L : List Wd) (r : Wd) : Nat := lsz L r (r.length - bas S) (bas S)
structure Stp where
  w : Wd
  l : Wd
  n : Nat
  g : Wd
/-- one code: what it tells, the book behind it, the rest of the text -/
def step1 (S : Sg) (st : Shf) (r : Wd) : Stp × Shf × Wd :=
  let n := lgst S st.ws r
  let w := r.take n
  let l := (r.drop n).take 1
  let b := !decide (l = []) && wgrow S st (w ++ l)
  (⟨w, l, st.ws.idxOf w, if b = true then w ++ l else []⟩, if b = true then growS S st (w ++ l) else st, r.drop (if S.hid = true then n else n + 1))
def stepsF (S : Sg) : Nat → Shf → Wd → List Stp
  | 0, _, _ => []
  | f + 1, st, r => if r = [] then [] else (step1 S st r).1 :: stepsF S f (step1 S st r).2.1 (step1 S st r).2.2
def stepsOf (S : Sg) (r : Wd) : List Stp := stepsF S r.length ⟨firstW S, 0⟩ r
def rowW (S : Sg) (x : Stp) : Wd := if S.hid = true then x.w else x.w ++ x.l
def rowOf (S : Sg) (r : Wd) : List Wd := (stepsOf S r).map (rowW S)
/-! ### .. in the heap -/
def limFs : LimK → Int → List (Str × V)
  | .free, _ => [("told", .non)]
  | .short, n => [("told", .int n), ("longest", .int n)]
  | _, n => [("told", .int n), ("many", .int n)]
def LimAt (K : PySem.W.Frag) (H : Hp) (l : Addr) (k : LimK) (n : Int) : Prop := ∃ dx, H l = some (.ins (cLim K k) dx (limFs k n))
def SetAt (K : PySem.W.Frag) (H : Hp) (a : Addr) (S : Sg) : Prop := ∃ dx l, H a = some (.ins (cSet K S.hid) dx [("letters", .int S.q), ("own_limit", .ref l)]) ∧ LimAt K H l S.lk S.ln ∧ 2 ≤ S.q ∧ S.q ≤ 26
theorem LimAt.same {K : PySem.W.Frag} {H H' : Hp} {l : Addr} {k : LimK} {n : Int} (e : Same H H') (h : LimAt K H l k n) : LimAt K H' l k n := let ⟨dx, h⟩ := h; ⟨dx, e _ _ h⟩
theorem SetAt.same {K : PySem.W.Frag} {H H' : Hp} {a : Addr} {S : Sg} (e : Same H H') (h : SetAt K H a S) : SetAt K H' a S := let ⟨dx, l, h, h2, h3⟩ := h; ⟨dx, l, e _ _ h, h2.same e, h3⟩
def strW (w : Wd) : V := .str (SX.S w)
def kvsOf (L : List Wd) : List (Key × V) := L.zipIdx.map fun p => (Sum.inr (SX.S p.1), .int p.2)
def shelfFs (a d b : Addr) (S : Sg) (g : Int) : List (Str × V) := [("setting", .ref a), ("is_hidden", .bl S.hid), ("by_word", .ref d), ("by_number", .ref b), ("grown_now", .int g)]
/-- the shelf at s, made over what H0 held -/
def ShAt (K : PySem.W.Frag) (H0 H : Hp) (s a : Addr) (S : Sg) (st : Shf) : Prop := Same H0 H ∧ H0 s = none ∧ SetAt K H0 a S ∧ ∃ dx d b, H0 d = none ∧ H0 b = none ∧
  H s = some (.ins (cShelf K) dx (shelfFs a d b S st.g)) ∧ H d = some (.dK (kvsOf st.ws)) ∧ H b = some (.lst (st.ws.map strW))
theorem valV_zip {w : Wd} : ∀ (L : List Wd) (o : Nat), valV ((L.zipIdx o).map fun p => ((Sum.inr (SX.S p.1) : Key), V.int p.2)) (Sum.inr (SX.S w)) = if w ∈ L then some (.int ((o + L.idxOf w : Nat) : Int)) else none
  | [], o => rfl
  | x :: L, o => by
    rw [List.zipIdx_cons, List.map_cons]
    by_cases e : x = w
    · subst e
      rw [valV_pos rfl, if_pos List.mem_cons_self, List.idxOf_cons_self, Nat.add_zero]
    · have ne : ¬ ((Sum.inr (SX.S x) : Key) = Sum.inr (SX.S w)) := fun z => e (SX.S_inj (by injection z))
      rw [valV_neg ne, valV_zip L (o + 1)]
      by_cases h : w ∈ L
      · have e2 : (x :: L).idxOf w = L.idxOf w + 1 := by rw [List.idxOf_cons, beq_eq_false_iff_ne.mpr e]; rfl
        rw [if_pos h, if_pos (List.mem_cons_of_mem _ h), e2]
        congr 2
        omega
      · rw [if_neg h, if_neg fun z => (List.mem_cons.mp z).elim (fun z => e z.symm) h]
theorem valV_kvs (L : List Wd) (w : Wd) : valV (kvsOf L) (Sum.inr (SX.S w)) = if w ∈ L then some (.int (L.idxOf w : Nat)) else none := by
  have h := valV_zip (w := w) L 0
  rw [Nat.zero_add] at h
  exact h
theorem kvs_snoc (L : List Wd) (w : Wd) : kvsOf (L ++ [w]) = kvsOf L ++ [(Sum.inr (SX.S w), .int (L.length : Nat))] := by
  unfold kvsOf
  rw [List.zipIdx_append, List.map_append]
  simp
theorem kvs_put {L : List Wd} {w : Wd} (h : w ∉ L) : putK (kvsOf L) (Sum.inr (SX.S w)) (.int (L.length : Nat)) = kvsOf (L ++ [w]) := by
  rw [putK_new _ (by rw [valV_kvs, if_neg h]), kvs_snoc]
theorem kvs_len (L : List Wd) : (kvsOf L).length = L.length := by simp [kvsOf]
theorem idx_low {u : Option Int} {n : Nat} {i : Int} (h : (n : Int) ≤ i) : PySem.Builtin.Str.strSliceIndices (some i) u 1 n = PySem.Builtin.Str.strSliceIndices (some (n : Int)) u 1 n := by
  have h0 : ¬ i < 0 := by omega
  have h1 : ¬ ((n : Int) < 0) := by omega
  simp only [PySem.Builtin.Str.strSliceIndices, h0, h1, if_false, show (1 : Int) > 0 by decide, if_true, Int.min_eq_right h, Int.min_self]
theorem slice_at {l : List Nat} {a b : Int} (h0 : 0 ≤ a) (h1 : a ≤ b) (h2 : b ≤ l.length) : Txt.slice (SX.S l) (some a) (some b) = SX.S ((l.drop a.toNat).take (b - a).toNat) :=
  (beq_iff_eq.mp (PyProof.Rows.slice_closesL (x := SX.S l) h0 h1 (by rw [sx_len]; exact h2))).trans (TL.ext_tl rfl)
theorem cutS_mid {l : List Nat} {a b : Int} (h0 : 0 ≤ a) (h1 : a ≤ b) : cutS (SX.S l) (some a) (some b) = SX.S ((l.drop a.toNat).take (b - a).toNat) := by
  rw [C8.cutS_slice]
  by_cases hb : b ≤ l.length
  · exact slice_at h0 h1 hb
  · have e1 : Txt.slice (SX.S l) (some a) (some b) = Txt.slice (SX.S l) (some a) (some (l.length : Int)) := by
      unfold Txt.slice
      rw [sx_len, SX.idx_hi (by omega)]
    rw [e1]
    by_cases ha : a ≤ l.length
    · rw [slice_at h0 ha (Int.le_refl _), List.take_of_length_le (by rw [List.length_drop]; omega), List.take_of_length_le (by rw [List.length_drop]; omega)]
    · have e2 : Txt.slice (SX.S l) (some a) (some (l.length : Int)) = Txt.slice (SX.S l) (some (l.length : Int)) (some (l.length : Int)) := by
        unfold Txt.slice
        rw [sx_len, idx_low (by omega)]
      rw [e2, slice_at (by omega) (Int.le_refl _) (Int.le_refl _), List.drop_eq_nil_of_le (by omega), List.drop_eq_nil_of_le (by omega), List.take_nil, List.take_nil]

end Pt_cod
section Pt_pen
/-! ### the pen: what draws -/
/-- a pen at p, its cells at c: at most n draws begun -/
def PenB (H : Hp) (p c : Addr) (n : Int) : Prop := ∃ (cells : List Int) (b r : Int), H p = some (.lst [.ref c, .int b, .int r]) ∧ H c = some (.lst (cells.map V.int)) ∧ 0 ≤ b ∧ b ≤ n ∧ 0 ≤ r
/-- all but p is kept -/
def Keep (p : Addr) (H H' : Hp) : Prop := ∀ q o, q ≠ p → H q = some o → H' q = some o
section
variable {H H' H'' H1 H2 : Hp} {p c q : Addr} {n n' : Int} {o : HO}
theorem Keep.refl (p : Addr) (H : Hp) : Keep p H H := fun _ _ _ h => h
theorem Keep.trans (a : Keep p H H1) (b : Keep p H1 H2) : Keep p H H2 := fun q o n h => b q o n (a q o n h)
theorem Keep.upd (a : Keep p H H1) : Keep p H (L2.upd H1 p o) := fun q u n h => by
  rw [upd_ne n]
  exact a q u n h
theorem Keep.new (a : Keep p H H1) (hq : H q = none) : Keep p H (L2.upd H1 q o) := fun b u n h => by
  rw [upd_ne (ne_of_none h hq)]
  exact a b u n h
theorem PenB.of {cells : List Int} {b r : Int} (hp : H p = some (.lst [.ref c, .int b, .int r])) (hc : H c = some (.lst (cells.map V.int))) (h0 : 0 ≤ b) (h1 : b ≤ n) (h2 : 0 ≤ r) : PenB H p c n := ⟨cells, b, r, hp, hc, h0, h1, h2⟩
theorem pen_ne {cells : List Int} {b r : Int} (hp : H p = some (.lst [.ref c, .int b, .int r])) (hc : H c = some (.lst (cells.map V.int))) : c ≠ p := ne_of hc hp (by
  intro e
  injection e with e
  cases cells with
  | nil => cases e
  | cons a r => simp at e)
theorem PenB.ne (h : PenB H p c n) : c ≠ p := by
  obtain ⟨cells, b, r, h1, h2, _⟩ := h
  exact pen_ne h1 h2
theorem PenB.mono (h : PenB H p c n) (hn : n ≤ n') : PenB H p c n' := by
  obtain ⟨cells, b, r, h1, h2, h3, h4, h5⟩ := h
  exact ⟨cells, b, r, h1, h2, h3, by omega, h5⟩
theorem PenB.upd' (h : PenB H p c n) (np : q ≠ p) (nc : q ≠ c) : PenB (L2.upd H q o) p c n := by
  obtain ⟨cells, b, r, h1, h2, h3, h4, h5⟩ := h
  exact ⟨cells, b, r, by rw [upd_ne np.symm]; exact h1, by rw [upd_ne nc.symm]; exact h2, h3, h4, h5⟩
theorem PenB.free (h : PenB H p c n) (hq : H q = none) : q ≠ p := by
  obtain ⟨cells, b, r, h1, _⟩ := h
  exact (ne_of_none h1 hq).symm
theorem PenB.freeC (h : PenB H p c n) (hq : H q = none) : q ≠ c := by
  obtain ⟨cells, b, r, _, h1, _⟩ := h
  exact (ne_of_none h1 hq).symm
theorem PenB.new (h : PenB H p c n) (hq : H q = none) : PenB (L2.upd H q o) p c n := h.upd' (h.free hq) (h.freeC hq)
theorem PenB.same (h : PenB H p c n) (s : Same H H') : PenB H' p c n := by
  obtain ⟨cells, b, r, h1, h2, h3, h4, h5⟩ := h
  exact ⟨cells, b, r, s _ _ h1, s _ _ h2, h3, h4, h5⟩
theorem Keep.free (e : Keep p H H') (n : q ≠ p) (h : H' q = none) : H q = none := by
  cases h1 : H q with
  | none => rfl
  | some o => rw [e q o n h1] at h; cases h
/-- a new object behind draws -/
theorem Keep.alloc (e : Keep p H H') (hp : PenB H' p c n) (hq : H' q = none) : Keep p H (L2.upd H' q o) := e.new (e.free (hp.free hq) hq)
theorem Keep.same (e : Keep p H H') (s : Same H' H'') : Keep p H H'' := fun q o n h => s _ _ (e q o n h)
end
theorem draw_cond {y b k1 k2 k3 : Int} (hy0 : 0 ≤ y) (hy : y < 2147483648) (hb : 0 ≤ b) (hb1 : b ≤ 100000) (h1 : 0 ≤ k1 ∧ k1 ≤ 1000000) (h2 : 0 ≤ k2 ∧ k2 ≤ 1000000) (h3 : 0 ≤ k3 ∧ k3 ≤ 1000000) : CPow (y * (2 * b + k1) + k2 * b * b + k3) 3 := by
  have e1 : y * (2 * b + k1) ≤ 2147483648 * 1200000 := Int.mul_le_mul (by omega) (by omega) (by omega) (by omega)
  have e0 : 0 ≤ y * (2 * b + k1) := Int.mul_nonneg hy0 (by omega)
  have e2 : k2 * b ≤ 1000000 * 100000 := Int.mul_le_mul (by omega) hb1 hb (by omega)
  have e3 : 0 ≤ k2 * b := Int.mul_nonneg h2.1 hb
  have e4 : k2 * b * b ≤ (1000000 * 100000) * 100000 := Int.mul_le_mul e2 hb1 hb (by omega)
  have e5 : 0 ≤ k2 * b * b := Int.mul_nonneg e3 hb
  exact ⟨by decide, by decide, by omega⟩
def spDraw : Sp := fun vs H Q _ => ∃ (p c : Addr) (m n : Int), vs = [.ref p, .int m] ∧ 0 < m ∧ m.natAbs.log2 < 9000 ∧ PenB H p c n ∧ n ≤ 100000 ∧
  ∀ (d : Int) (H' : Hp), 0 ≤ d → d < m → Keep p H H' → PenB H' p c (n + 1) → Q (.int d) H'
section
variable {P : Program} {w : World} {K : PySem.W.Frag} {mg : Str → Option Value} {base : Heap}
theorem d_law_draw (T : Txt K mg) (F : FD K mg "_law_draw" s_law_draw) : Dn P w K mg base 1 "_law_draw" s_law_draw ["pen", "many"] (spDraw) := by
  refine dn_of F (fun _ _ _ _ _ _ us hl => match us, hl with | [_, _], _ => rfl) sc_law_draw (fun vs H Q E h => ?_) (fun fa cdv A outer s H vs Q E hr h => ?_)
  · obtain ⟨p, c, m, n, rfl, _⟩ := h
    rfl
  · obtain ⟨p, c, m, n, rfl, hm, hm2, ⟨cells, b, r, hp, hc, hb, hbn, hr0⟩, hn, k⟩ := h
    have ncp : c ≠ p := pen_ne hp hc
    refine ⟨_, PSs.nox (pss_cons (ps_if (pt_cmpR op_gt (pe_ix ix_list (pv 0) pe_int (fun _ _ => rfl)) pe_int (nomark _))
 (pss_cons (ps_set (i := 2) sc_law_draw.nd rfl (Or.inl rfl) (pe_op op_mod (pe_callTy cl_int1 (by rfl) T.n_int (by decide +kernel) (pa_cons (pe_ix ix_list (pv 0) pe_int (fun _ _ => rfl)) pa_nil)) (pv 1)))
 (pss_cons (ps_asg (pe_op op_fdivW (pe_callTy cl_int1 (by rfl) T.n_int (by decide +kernel) (pa_cons (pe_ix ix_list (pv 0) pe_int (fun _ _ => rfl)) pa_nil)) (pv 1)) (pg_sub (pv 0) pe_int set_list))
 (pss_one (ps_ret (pv 2)))))
 pss_nil)
 (pss_cons (ps_set (i := 3) sc_law_draw.nd rfl (Or.inl rfl) (pe_ix ix_list (pv 0) pe_int (fun _ _ => rfl)))
 (pss_cons (ps_asg (pe_op op_add (pv 3) pe_int) (pg_sub (pv 0) pe_int set_list))
 (pss_cons (ps_set (i := 4) sc_law_draw.nd rfl (Or.inl rfl) (pe_op op_add (pe_op op_mulA pe_int (pv 3)) pe_int))
 (pss_cons (ps_if (pt_cmpR (op_neD hr.units) (pe_ix ix_list (pv 0) pe_int (fun _ _ => rfl)) (pe_lst pa_nil) (nomark _))
 (pss_one (ps_set (i := 4) sc_law_draw.nd rfl (Or.inl rfl) (pe_ix ix_list (pe_ix ix_list (pv 0) pe_int (fun _ _ => rfl)) (pe_op op_mod (pe_callTy cl_int1 (by rfl) T.n_int (by decide +kernel) (pa_cons (pv 3) pa_nil)) (pe_callB cl_lenQ (by rfl) T.n_len (by decide +kernel) (pa_cons (pe_ix ix_list (pv 0) pe_int (fun _ _ => rfl)) pa_nil))) (fun _ _ => rfl))))
 pss_nil)
 (pss_cons (ps_if (PW.pt (pw_and (pt_cmpR op_lt (pv 3) (pe_callB cl_lenQ (by rfl) T.n_len (by decide +kernel) (pa_cons (pe_ix ix_list (pv 0) pe_int (fun _ _ => rfl)) pa_nil)) (nomark _)) (pw_and1 (pt_cmpR op_ge (pe_callB cl_abs (by rfl) T.n_abs (by decide +kernel) (pa_cons (pv 4) pa_nil)) (pe_op op_pow pe_int pe_int) (nomark _)))))
 (pss_cons (ps_set (i := 5) sc_law_draw.nd rfl (Or.inl rfl) (pe_op op_add (pe_op op_mulA pe_int (pe_op op_sub (pe_callB cl_abs (by rfl) T.n_abs (by decide +kernel) (pa_cons (pv 4) pa_nil)) (pe_op op_pow pe_int pe_int))) (pe_callTy cl_int1 (by rfl) T.n_int (by decide +kernel) (pa_cons (pe_cmpR op_lt (pv 4) pe_int (nomark _)) pa_nil))))
 (pss_cons (ps_asg (pe_op op_fdivW (pe_callTy cl_int1 (by rfl) T.n_int (by decide +kernel) (pa_cons (pv 5) pa_nil)) (pv 1)) (pg_sub (pv 0) pe_int set_list))
 (pss_one (ps_ret (pe_op op_mod (pe_callTy cl_int1 (by rfl) T.n_int (by decide +kernel) (pa_cons (pv 5) pa_nil)) (pv 1))))))
 pss_nil)
 (pss_cons (ps_set (i := 6) sc_law_draw.nd rfl (Or.inl rfl) (pe_op op_mod (pe_callTy cl_int1 (by rfl) T.n_int (by decide +kernel) (pa_cons (pe_op op_pow (pe_op op_add (pe_op op_add (pe_op op_mod (pe_callTy cl_int1 (by rfl) T.n_int (by decide +kernel) (pa_cons (pv 4) pa_nil)) pe_int) (pe_op op_mulA pe_int (pv 3))) pe_int) pe_int) pa_nil)) pe_int))
 (pss_cons (ps_set (i := 6) sc_law_draw.nd rfl (Or.inl rfl) (pe_op op_mod (pe_callTy cl_int1 (by rfl) T.n_int (by decide +kernel) (pa_cons (pe_op op_pow (pe_op op_add (pe_op op_add (pe_op op_mulA (pv 6) (pe_op op_add (pe_op op_mulA pe_int (pv 3)) pe_int)) (pe_op op_mulA (pe_op op_mulA pe_int (pv 3)) (pv 3))) pe_int) pe_int) pa_nil)) pe_int))
 (pss_one (ps_ret (pe_op op_mod (pe_callTy cl_int1 (by rfl) T.n_int (by decide +kernel) (pa_cons (pe_op op_fdivW (pv 6) pe_int) pa_nil)) (pv 1)))))))))))), ?_⟩
    refine w_start (σ := [some (.ref p), some (.int m), none, none, none, none, none]) rfl ?_
    with_reducible refine w_seq ?_
    repeat walk_at "st"
    refine w_ite (fun h0 => ?_) (fun h0 => ?_)
    · repeat walk_at "st"
      refine k _ _ (Int.emod_nonneg _ (by omega)) (Int.emod_lt_of_pos _ hm) (Keep.refl p H).upd ?_
      exact PenB.of upd_same (by walk_at "hp") hb (by omega) (Int.ediv_nonneg hr0 (by omega))
    repeat walk_at "st"
    with_reducible refine w_join (fun σ' H' => ∃ x : Int, σ' = [some (.ref p), some (.int m), none, some (.int b), some (.int x), none, none] ∧ H' p = some (.lst [.ref c, .int (b + 1), .int r]) ∧ H' c = some (.lst (cells.map V.int)) ∧ Keep p H H') (fun X hX => ?_) ?_
    · repeat walk_at "st"
      refine ⟨Nat.zero_le _, fun q hq => ?_⟩
      have nqp : p ≠ q := ne_of_none upd_same hq
      have nqc : c ≠ q := ne_of_none (show upd H p (.lst [V.ref c, V.int (b + 1), V.int r]) c = some (.lst (cells.map V.int)) by walk_at "hp") hq
      have hq0 : H q = none := by
        rw [upd_ne nqp.symm] at hq
        exact hq
      refine w_neNil (ns := cells) (by walk_at "hp") (by walk_at "hp") ?_
      repeat walk_at "st"
      refine w_itN (fun h1 => ?_) (fun h1 => ?_)
      · have hl : 0 < cells.length := List.length_pos_iff.mpr h1
        repeat walk_at "st"
        refine w_I (by rw [List.length_map]; omega) ?_
        refine w_ixL (xs := cells.map V.int) (by walk_at "hp") (atI_map (Int.emod_nonneg _ (by rw [List.length_map]; omega)) (by rw [List.length_map]; exact Int.emod_lt_of_pos _ (by omega))) ?_
        repeat walk_at "st"
        exact hX _ _ ⟨_, rfl, by walk_at "hp", by walk_at "hp", ((Keep.refl p H).upd).new hq0⟩
      · repeat walk_at "st"
        exact hX _ _ ⟨_, rfl, by walk_at "hp", by walk_at "hp", ((Keep.refl p H).upd).new hq0⟩
    · rintro σ' H' ⟨x, rfl, hp', hc', kp⟩
      with_reducible refine w_join (fun σ1 H1 => σ1 = [some (.ref p), some (.int m), none, some (.int b), some (.int x), none, none] ∧ H1 = H') (fun X hX => ?_) ?_
      · repeat walk_at "st"
        refine w_ite (fun h1 => ?_) (fun h1 => ?_)
        · repeat walk_at "st"
          refine w_ite (fun h2 => ?_) (fun h2 => ?_)
          · repeat walk_at "st"
            refine k _ _ (Int.emod_nonneg _ (by omega)) (Int.emod_lt_of_pos _ hm) kp.upd ?_
            refine PenB.of upd_same (by walk_at "hp") (by omega) (by omega) (Int.ediv_nonneg ?_ (by omega))
            have h3 : (10 : Int) ^ (18 : Int).toNat ≤ (if x < 0 then -x else x) := h2
            split <;> split <;> omega
          · repeat walk_at "st"
            exact hX _ _ ⟨rfl, rfl⟩
        · repeat walk_at "st"
          exact hX _ _ ⟨rfl, rfl⟩
      · rintro σ1 H1 ⟨rfl, rfl⟩
        repeat walk_at "st"
        refine w_I (draw_cond (Int.emod_nonneg _ (by decide)) (Int.lt_trans (Int.emod_lt_of_pos _ (by decide)) (by decide)) hb (by omega) (by decide) (by decide) (by decide)) ?_
        repeat walk_at "st"
        exact k _ _ (Int.emod_nonneg _ (by omega)) (Int.emod_lt_of_pos _ hm) kp (PenB.of hp' hc' (by omega) (by omega) (by omega))
def spPick (K : PySem.W.Frag) : Sp := fun vs H Q _ => ∃ (p c : Addr) (x : V) (xs : List V) (n : Int), vs = [.ref p, x] ∧ Row K H x xs ∧ x ≠ .ref p ∧ 0 < xs.length ∧ xs.length ≤ 1000000 ∧ PenB H p c n ∧ n ≤ 100000 ∧
  ∀ (v : V) (H' : Hp), v ∈ xs → Keep p H H' → PenB H' p c (n + 1) → Q v H'
theorem Row.keep {H H' : Hp} {p : Addr} {x : V} {xs : List V} (e : Keep p H H') (h : Row K H x xs) (n : x ≠ .ref p) : Row K H' x xs := by
  cases h with
  | lst h =>
    rename_i a
    have na : a ≠ p := fun z => n (by rw [z])
    refine .lst ?_
    rcases h with (h | ⟨o, h⟩) | h
    · exact .inl (.inl (e _ _ na h))
    · exact .inl (.inr ⟨o, e _ _ na h⟩)
    · exact .inr h
  | tup h =>
    rename_i a
    have na : a ≠ p := fun z => n (by rw [z])
    refine .tup ?_
    rcases h with (h | ⟨o, h⟩) | h
    · exact .inl (.inl (e _ _ na h))
    · exact .inl (.inr ⟨o, e _ _ na h⟩)
    · exact .inr h
  | str h => exact .str h
theorem log2_small {n : Nat} (h : n ≤ 1000000) : ((n : Nat) : Int).natAbs.log2 < 9000 := by
  rw [Int.natAbs_natCast]
  exact PySem.Flt.log2_lt_of (by decide) (Nat.lt_of_le_of_lt h (by decide +kernel))
/-- .. of a list that was just made -/
theorem pick_new {K : PySem.W.Frag} {H : Hp} {p c q : Addr} {n : Int} {xs : List V} {Q : VK} (hq : H q = none) (hp : PenB H p c n) (hn : n ≤ 100000) (l0 : 0 < xs.length) (l1 : xs.length ≤ 1000000)
    (cn : ∀ (v : V) (H' : Hp), v ∈ xs → Keep p H H' → PenB H' p c (n + 1) → Q v H') : spPick K ([.ref p, .ref q] ++ []) (L2.upd H q (.lst xs)) Q E0 :=
  ⟨p, c, .ref q, xs, n, rfl, .lst (SqL.of upd_same), fun e => hp.free hq (by injection e), l0, l1, hp.new hq, hn, fun v H' hv e h => cn v H' hv (((Keep.refl p H).alloc hp hq).trans e) h⟩
def spPen (K : PySem.W.Frag) : Sp := fun vs H Q _ => ∃ (a : Addr) (ns : List Int), vs = [.ref a] ∧ SqL K H a (ns.map V.int) ∧
  ∀ (p c : Addr) (H' : Hp), H p = none → Same H H' → PenB H' p c 0 → Q (.ref p) H'
theorem cutV_ints (ns : List Int) (lo hi : Option Int) : ∃ ms : List Int, cutV (ns.map V.int) lo hi = ms.map V.int := by
  unfold cutV
  rw [← List.map_drop, ← List.map_take]
  exact ⟨_, rfl⟩
theorem d_law_pen (T : Txt K mg) (F : FD K mg "_law_pen" s_law_pen) : Dn P w K mg base 1 "_law_pen" s_law_pen ["script"] (spPen K) := by
  refine dn_of F (fun _ _ _ _ _ _ us hl => match us, hl with | [_], _ => rfl) sc_law_pen (fun vs H Q E h => ?_) (fun fa cdv A outer s H vs Q E hr h => ?_)
  · obtain ⟨a, ns, rfl, _⟩ := h
    rfl
  · obtain ⟨a, ns, rfl, hS, k⟩ := h
    refine ⟨_, PSs.nox (pss_one (ps_ret (pe_lst (pa_cons (pe_callTy cl_listOf (by rfl) T.n_list (by decide +kernel) (pa_cons (pe_slice sl_list (pv 0) po_none (po_some pe_int)) pa_nil)) (pa_cons pe_int (pa_cons pe_int pa_nil)))))), ?_⟩
    refine w_start (σ := [some (.ref a)]) rfl ?_
    repeat walk_at "st"
    refine w_slL hS fun q hq => ?_
    obtain ⟨ms, e⟩ := cutV_ints ns none (some 63)
    rw [e]
    repeat walk_at "st"
    refine w_listOfK (SqL.of upd_same) fun r hr' => ?_
    repeat walk_at "st"
    refine ⟨by walk_at "len", fun p hp => ?_⟩
    have nrp : r ≠ p := ne_of_none upd_same hp
    have nqr : q ≠ r := ne_of_none upd_same hr'
    have r0 : H r = none := by
      rw [upd_ne nqr.symm] at hr'
      exact hr'
    have nqp : q ≠ p := ne_of_none (show upd (upd H q (.lst (ms.map V.int))) r (.lst (ms.map V.int)) q = some (.lst (ms.map V.int)) by walk_at "hp") hp
    have p0 : H p = none := by
      rw [upd_ne nrp.symm, upd_ne nqp.symm] at hp
      exact hp
    refine k p r _ p0 (fun b o hb => ?_) (PenB.of upd_same (by walk_at "hp") (by decide) (by decide) (by decide))
    rw [upd_ne (ne_of_none hb p0), upd_ne (ne_of_none hb r0), upd_ne (ne_of_none hb hq)]
    exact hb
end

end Pt_pen
section Pt_lim
/-! ### limits.py: what a limit lets -/
def spTrue3 : Sp := fun vs H Q _ => ∃ x y z, vs = [x, y, z] ∧ Q (.bl true) H
def spFalse2 : Sp := fun vs H Q _ => ∃ x y, vs = [x, y] ∧ Q (.bl false) H
def spLets (K : PySem.W.Frag) (k : LimK) : Sp := fun vs H Q _ => ∃ l n g z, vs = [.ref l, .int g, .int z] ∧ LimAt K H l k n ∧ Q (.bl (letsK k n g z)) H
def spEnds (K : PySem.W.Frag) (k : LimK) : Sp := fun vs H Q _ => ∃ l n g, vs = [.ref l, .int g] ∧ LimAt K H l k n ∧ Q (.bl (endsK k n g)) H
def limOk : LimK → Int → Prop
  | .free, n => n = 0
  | .short, n => 1 ≤ n ∧ n ≤ 64
  | .cleared, n => 1 ≤ n ∧ n ≤ 4096
  | .standing, n => 0 ≤ n ∧ n ≤ 4096
def limArgs : LimK → Int → List V
  | .free, _ => []
  | _, n => [.int n]
def spLimInit (K : PySem.W.Frag) (k : LimK) : Sp := fun vs H Q _ => ∃ x dx n, vs = .ref x :: limArgs k n ∧ limOk k n ∧ H x = some (.ins (cLim K k) dx []) ∧ Q .non (upd H x (.ins (cLim K k) dx (limFs k n)))
section
variable {P : Program} {w : World} {K : PySem.W.Frag} {mg : Str → Option Value} {base : Heap}
theorem d_Limit_lets (T : Txt K mg) {f : Addr} (F : FA K "lets" "Limit.lets" s_Limit_lets [] f) : Fr P w K mg base 1 (f) ["self", "grown", "size"] [] (spTrue3) := by
  refine fr_of0 F (fun _ _ _ _ _ _ us hl => match us, hl with | [_, _, _], _ => rfl) sc_Limit_lets (fun vs H Q E h => ?_) (fun fa cdv A outer s H vs Q E hr h => ?_)
  · obtain ⟨x, y, z, rfl, _⟩ := h
    rfl
  · obtain ⟨x, y, z, rfl, k⟩ := h
    refine ⟨_, PSs.nox (pss_one (ps_ret pe_bl)), ?_⟩
    refine w_start (σ := [some x, some y, some z]) rfl ?_
    repeat walk_at "st"
    exact k
theorem d_Short_lets (T : Txt K mg) {f : Addr} (F : FA K "lets" "Short.lets" s_Short_lets [] f) : Fr P w K mg base 1 (f) ["self", "grown", "size"] [] (spLets K .short) := by
  refine fr_of0 F (fun _ _ _ _ _ _ us hl => match us, hl with | [_, _, _], _ => rfl) sc_Short_lets (fun vs H Q E h => ?_) (fun fa cdv A outer s H vs Q E hr h => ?_)
  · obtain ⟨l, n, g, z, rfl, _⟩ := h
    rfl
  · obtain ⟨l, n, g, z, rfl, ⟨dx, hl⟩, k⟩ := h
    refine ⟨_, PSs.nox (pss_one (ps_ret (pe_cmpR op_le (pv 2) (pe_fld (pv 0) rfl) (nomark _)))), ?_⟩
    refine w_start (σ := [some (.ref l), some (.int g), some (.int z)]) rfl ?_
    repeat walk_at "st"
    exact k
theorem d_Standing_lets (T : Txt K mg) {f : Addr} (F : FA K "lets" "Standing.lets" s_Standing_lets [] f) : Fr P w K mg base 1 (f) ["self", "grown", "size"] [] (spLets K .standing) := by
  refine fr_of0 F (fun _ _ _ _ _ _ us hl => match us, hl with | [_, _, _], _ => rfl) sc_Standing_lets (fun vs H Q E h => ?_) (fun fa cdv A outer s H vs Q E hr h => ?_)
  · obtain ⟨l, n, g, z, rfl, _⟩ := h
    rfl
  · obtain ⟨l, n, g, z, rfl, ⟨dx, hl⟩, k⟩ := h
    refine ⟨_, PSs.nox (pss_one (ps_ret (pe_cmpR op_lt (pv 1) (pe_fld (pv 0) rfl) (nomark _)))), ?_⟩
    refine w_start (σ := [some (.ref l), some (.int g), some (.int z)]) rfl ?_
    repeat walk_at "st"
    exact k
theorem d_Limit_ends_at (T : Txt K mg) {f : Addr} (F : FA K "ends_at" "Limit.ends_at" s_Limit_ends_at [] f) : Fr P w K mg base 1 (f) ["self", "grown"] [] (spFalse2) := by
  refine fr_of0 F (fun _ _ _ _ _ _ us hl => match us, hl with | [_, _], _ => rfl) sc_Limit_ends_at (fun vs H Q E h => ?_) (fun fa cdv A outer s H vs Q E hr h => ?_)
  · obtain ⟨x, y, rfl, _⟩ := h
    rfl
  · obtain ⟨x, y, rfl, k⟩ := h
    refine ⟨_, PSs.nox (pss_one (ps_ret pe_bl)), ?_⟩
    refine w_start (σ := [some x, some y]) rfl ?_
    repeat walk_at "st"
    exact k
theorem d_Cleared_ends_at (T : Txt K mg) {f : Addr} (F : FA K "ends_at" "Cleared.ends_at" s_Cleared_ends_at [] f) : Fr P w K mg base 1 (f) ["self", "grown"] [] (spEnds K .cleared) := by
  refine fr_of0 F (fun _ _ _ _ _ _ us hl => match us, hl with | [_, _], _ => rfl) sc_Cleared_ends_at (fun vs H Q E h => ?_) (fun fa cdv A outer s H vs Q E hr h => ?_)
  · obtain ⟨l, n, g, rfl, _⟩ := h
    rfl
  · obtain ⟨l, n, g, rfl, ⟨dx, hl⟩, k⟩ := h
    refine ⟨_, PSs.nox (pss_one (ps_ret (pe_cmpR op_ge (pv 1) (pe_fld (pv 0) rfl) (nomark _)))), ?_⟩
    refine w_start (σ := [some (.ref l), some (.int g)]) rfl ?_
    repeat walk_at "st"
    exact k
theorem d_Free___init__ (T : Txt K mg) {f : Addr} (F : FA K "__init__" "Free.__init__" s_Free___init__ [] f) : Fr P w K mg base 1 (f) ["self"] [] (spLimInit K .free) := by
  refine fr_of0 F (fun _ _ _ _ _ _ us hl => match us, hl with | [_], _ => rfl) sc_Free___init__ (fun vs H Q E h => ?_) (fun fa cdv A outer s H vs Q E hr h => ?_)
  · obtain ⟨x, dx, n, rfl, _⟩ := h
    rfl
  · obtain ⟨x, dx, n, rfl, _, hx, k⟩ := h
    refine ⟨_, PSs.nox (pss_one (ps_fld (pv 0) pe_non rfl)), ?_⟩
    refine w_start (σ := [some (.ref x)]) rfl ?_
    repeat walk_at "st"
    exact k
theorem bet_of {lo hi n : Int} (h1 : lo ≤ n) (h2 : n ≤ hi) : betV lo hi (.int n) = true := by
  show (decide (lo ≤ n) && decide (n ≤ hi)) = true
  rw [decide_eq_true h1, decide_eq_true h2]
  rfl
theorem w_cval {K : PySem.W.Frag} {σ : L2.St} {H : Hp} {Q : VK} {ta : TE} {C : Addr} {f : Str} {v : V} (c : ClsCon K C f v) (h : ta σ H fun x H1 => x = .ref C ∧ Q v H1) (m : ∀ {R R' : VK}, (∀ x H1, R x H1 → R' x H1) → ta σ H R → ta σ H R') : ClX.tCVal K ta f σ H Q := by
  obtain ⟨mc, u, c1, c2⟩ := c
  exact m (fun x H1 ⟨e, q⟩ => ⟨C, mc, v, u, e, c1, c2, q⟩) h
theorem d_Short___init__ (T : Txt K mg) {f : Addr} (F : FA K "__init__" "Short.__init__" s_Short___init__ [] f) (c_is_between : Dn P w K mg base 2 "is_between" s_is_between ["value", "least", "most"] (spBetween)) : Fr P w K mg base 3 (f) ["self", "longest"] [] (spLimInit K .short) := by
  refine fr_of0 F (fun _ _ _ _ _ _ us hl => match us, hl with | [_, _], _ => rfl) sc_Short___init__ (fun vs H Q E h => ?_) (fun fa cdv A outer s H vs Q E hr h => ?_)
  · obtain ⟨x, dx, n, rfl, _⟩ := h
    rfl
  · obtain ⟨x, dx, n, rfl, hn, hx, k⟩ := h
    refine ⟨_, PSs.nox (pss_cons (ps_if (pt_not (pt_val (pe_d c_is_between hr (by decide) rfl (pa_cons (pv 1) (pa_cons pe_int (pa_cons (ClX.pe_cval (pe_gc rfl (T.gc_lim .short))) pa_nil)))) (by intro _; rfl)))
 (pss_one ps_never)
 pss_nil)
 (pss_cons (ps_fld (pv 0) (pv 1) rfl)
 (pss_one (ps_fld (pv 0) (pv 1) rfl)))), ?_⟩
    refine w_start (σ := [some (.ref x), some (.int n)]) rfl ?_
    with_reducible refine w_seq ?_
    repeat walk_at "st"
    refine w_cval T.most_s ⟨rfl, ?_⟩ fun h => h _ _
    repeat walk_at "st"
    refine ⟨.int n, "int", 1, 64, rfl, .int n, ?_⟩
    rw [bet_of hn.1 hn.2]
    repeat walk_at "st"
    rw [upd_upd]
    exact k
theorem d_Cleared___init__ (T : Txt K mg) {f : Addr} (F : FA K "__init__" "Cleared.__init__" s_Cleared___init__ [] f) (c_is_between : Dn P w K mg base 2 "is_between" s_is_between ["value", "least", "most"] (spBetween)) : Fr P w K mg base 3 (f) ["self", "many"] [] (spLimInit K .cleared) := by
  refine fr_of0 F (fun _ _ _ _ _ _ us hl => match us, hl with | [_, _], _ => rfl) sc_Cleared___init__ (fun vs H Q E h => ?_) (fun fa cdv A outer s H vs Q E hr h => ?_)
  · obtain ⟨x, dx, n, rfl, _⟩ := h
    rfl
  · obtain ⟨x, dx, n, rfl, hn, hx, k⟩ := h
    refine ⟨_, PSs.nox (pss_cons (ps_if (pt_not (pt_val (pe_d c_is_between hr (by decide) rfl (pa_cons (pv 1) (pa_cons pe_int (pa_cons (ClX.pe_cval (pe_gc rfl (T.gc_Counted))) pa_nil)))) (by intro _; rfl)))
 (pss_one ps_never)
 pss_nil)
 (pss_cons (ps_fld (pv 0) (pv 1) rfl)
 (pss_one (ps_fld (pv 0) (pv 1) rfl)))), ?_⟩
    refine w_start (σ := [some (.ref x), some (.int n)]) rfl ?_
    with_reducible refine w_seq ?_
    repeat walk_at "st"
    refine w_cval T.most_c ⟨rfl, ?_⟩ fun h => h _ _
    repeat walk_at "st"
    refine ⟨.int n, "int", 1, 4096, rfl, .int n, ?_⟩
    rw [bet_of hn.1 hn.2]
    repeat walk_at "st"
    rw [upd_upd]
    exact k
theorem d_Standing___init__ (T : Txt K mg) {f : Addr} (F : FA K "__init__" "Standing.__init__" s_Standing___init__ [] f) (c_is_between : Dn P w K mg base 2 "is_between" s_is_between ["value", "least", "most"] (spBetween)) : Fr P w K mg base 3 (f) ["self", "many"] [] (spLimInit K .standing) := by
  refine fr_of0 F (fun _ _ _ _ _ _ us hl => match us, hl with | [_, _], _ => rfl) sc_Standing___init__ (fun vs H Q E h => ?_) (fun fa cdv A outer s H vs Q E hr h => ?_)
  · obtain ⟨x, dx, n, rfl, _⟩ := h
    rfl
  · obtain ⟨x, dx, n, rfl, hn, hx, k⟩ := h
    refine ⟨_, PSs.nox (pss_cons (ps_if (pt_not (pt_val (pe_d c_is_between hr (by decide) rfl (pa_cons (pv 1) (pa_cons pe_int (pa_cons (ClX.pe_cval (pe_gc rfl (T.gc_Counted))) pa_nil)))) (by intro _; rfl)))
 (pss_one ps_never)
 pss_nil)
 (pss_cons (ps_fld (pv 0) (pv 1) rfl)
 (pss_one (ps_fld (pv 0) (pv 1) rfl)))), ?_⟩
    refine w_start (σ := [some (.ref x), some (.int n)]) rfl ?_
    with_reducible refine w_seq ?_
    repeat walk_at "st"
    refine w_cval T.most_c ⟨rfl, ?_⟩ fun h => h _ _
    repeat walk_at "st"
    refine ⟨.int n, "int", 0, 4096, rfl, .int n, ?_⟩
    rw [bet_of hn.1 hn.2]
    repeat walk_at "st"
    rw [upd_upd]
    exact k
theorem lets_free : ∀ vs H Q E, spLets K .free vs H Q E → spTrue3 vs H Q E := fun _ _ _ _ ⟨_, _, _, _, e, _, q⟩ => ⟨_, _, _, e, q⟩
theorem lets_cleared : ∀ vs H Q E, spLets K .cleared vs H Q E → spTrue3 vs H Q E := fun _ _ _ _ ⟨_, _, _, _, e, _, q⟩ => ⟨_, _, _, e, q⟩
theorem ends_free : ∀ vs H Q E, spEnds K .free vs H Q E → spFalse2 vs H Q E := fun _ _ _ _ ⟨_, _, _, e, _, q⟩ => ⟨_, _, e, q⟩
theorem ends_short : ∀ vs H Q E, spEnds K .short vs H Q E → spFalse2 vs H Q E := fun _ _ _ _ ⟨_, _, _, e, _, q⟩ => ⟨_, _, e, q⟩
theorem ends_standing : ∀ vs H Q E, spEnds K .standing vs H Q E → spFalse2 vs H Q E := fun _ _ _ _ ⟨_, _, _, e, _, q⟩ => ⟨_, _, e, q⟩
end

end Pt_lim
section Pt_sett
/-! ### need_text, settings.py -/
def spNeedT : Sp := fun vs H Q _ => ∃ (l : List Nat) (q : Int), vs = [.str (SX.S l), .int q] ∧ 0 ≤ q ∧ (∀ c ∈ l, c ∈ abcL.take q.toNat) ∧ l.length ≤ 5000 ∧ ∀ H', Same H H' → Q .non H'
def spSetLimit (K : PySem.W.Frag) (h : Bool) : Sp := fun vs H Q _ => ∃ a dx l n, vs = [.ref a] ∧ H a = some (.ins (cSet K h) dx [("letters", .int n), ("own_limit", .ref l)]) ∧ Q (.ref l) H
/-- all but x is kept -/
def spSetInit (K : PySem.W.Frag) (h : Bool) : Sp := fun vs H Q _ => ∃ x dx q lim k n, vs = [.ref x, .int q, lim] ∧ 2 ≤ q ∧ q ≤ 26 ∧ H x = some (.ins (cSet K h) dx []) ∧ ((lim = .non ∧ k = .free ∧ n = 0) ∨ ∃ l, lim = .ref l ∧ LimAt K H l k n) ∧
  ∀ H' l, Keep x H H' → H' x = some (.ins (cSet K h) dx [("letters", .int q), ("own_limit", .ref l)]) → LimAt K H' l k n → Q .non H'
theorem w_enumS {σ : L2.St} {H : Hp} {ta : TA} {R : It → Hp → Prop} (q : ta σ H fun vs H1 => ∃ z, vs = [.str z] ∧ R (Itw (fun _ => True) (signsV z)) H1) : iEnumS ta σ H R := q
theorem w_str1 {a : Str} {P : Str → Prop} (q : P a) : ∃ z, [V.str a] = [.str z] ∧ P z := ⟨a, rfl, q⟩
theorem signs_at {l : List Nat} {i : Nat} {x : V} (h : (signsV (SX.S l))[i]? = some x) : ∃ c, l[i]? = some c ∧ x = .str ⟨#[c]⟩ := by
  unfold signsV at h
  rw [List.getElem?_map] at h
  have e : (SX.S l).cps.toList = l := by simp [SX.S]
  rw [e] at h
  cases hc : l[i]? with
  | none => rw [hc] at h; cases h
  | some c =>
    rw [hc] at h
    exact ⟨c, rfl, (Option.some.inj h).symm⟩
theorem same_free {H H' : Hp} {q : Addr} (e : Same H H') (h : H' q = none) : H q = none := by
  cases h1 : H q with
  | none => rfl
  | some o => rw [e q o h1] at h; cases h
theorem keep_two {H : Hp} {x y dx : Addr} {o u : HO} (h1 : H y = none) (h2 : H dx = none) : Keep x H (upd (upd H dx o) y u) := fun b w _ hb => same_two h1 h2 b w hb
section
variable {P : Program} {w : World} {K : PySem.W.Frag} {mg : Str → Option Value} {base : Heap}
theorem d_need_text (T : Txt K mg) (F : FD K mg "need_text" s_need_text) : Dn P w K mg base 1 "need_text" s_need_text ["value", "letters"] (spNeedT) := by
  refine dn_of F (fun _ _ _ _ _ _ us hl => match us, hl with | [_, _], _ => rfl) sc_need_text (fun vs H Q E h => ?_) (fun fa cdv A outer s H vs Q E hr h => ?_)
  · obtain ⟨l, q, rfl, _⟩ := h
    rfl
  · obtain ⟨l, q, rfl, hq, hl, hn, k⟩ := h
    refine ⟨_, PSs.nox (pss_cons (ps_if (pt_not (pt_val (pe_callB call_isi (by rfl) T.n_isinstance (by decide +kernel) (pa_cons (pv 0) (pa_cons (pe_bltn (v := .ty "str") (by rfl) T.n_str (by decide +kernel) rfl) pa_nil))) (by intro _; rfl)))
 (pss_one ps_never)
 pss_nil)
 (pss_cons (ps_for PassesOwn.never rfl (pi_enumS (by rfl) T.n_enumerate (pa_cons (pv 0) pa_nil)) (pg_tup rfl (pgs_cons (pg_name (i := 2) sc_need_text.nd rfl (Or.inl rfl)) (pgs_cons (pg_name (i := 3) sc_need_text.nd rfl (Or.inl rfl)) pgs_nil)))
 (pss_one (ps_if (pt_cmpR op_notIn1 (pv 3) (pe_slice sl_str (pe_gv rfl T.g_SIGNS) po_none (po_some (pv 1))) (by rfl))
 (pss_one ps_never)
 pss_nil)))
 (pss_one (ps_if (pt_cmpR op_gt (pe_callB cl_lenS (by rfl) T.n_len (by decide +kernel) (pa_cons (pv 0) pa_nil)) (pe_gv rfl T.g_MOST_TEXT) (nomark _))
 (pss_one ps_never)
 pss_nil)))), ?_⟩
    refine w_start (σ := [some (.str (SX.S l)), some (.int q), none, none]) rfl ?_
    with_reducible refine w_seq ?_
    repeat walk_at "st"
    refine w_isiStr (.str _) ?_
    repeat walk_at "st"
    with_reducible refine w_seq ?_
    repeat walk_at "st"
    refine w_enumS ?_
    repeat walk_at "st"
    refine w_str1 ?_
    refine for_itw (fun _ σ' H' => ∃ o1 o2, σ' = [some (.str (SX.S l)), some (.int q), o1, o2] ∧ Same H H') ⟨none, none, rfl, Same.refl H⟩ (fun _ _ _ _ => trivial) ?_ ?_
    · rintro i x t σ' H' hx ⟨o1, o2, rfl, e⟩ ht
      obtain ⟨c, hc, rfl⟩ := signs_at hx
      repeat walk_at "st"
      rw [abc_S, cutS_to hq]
      repeat walk_at "st"
      have hm : c ∈ abcL.take q.toNat := hl c (List.mem_of_getElem? hc)
      refine w_iteF (b := !decide (c ∈ (SX.S (abcL.take q.toNat)).cps.toList)) ?_ ?_
      · have e2 : (SX.S (abcL.take q.toNat)).cps.toList = abcL.take q.toNat := by simp [SX.S]
        rw [e2, decide_eq_true hm]
        rfl
      · repeat walk_at "st"
        exact ⟨_, _, rfl, same_new (same_free e ht) e⟩
    · rintro σ' H' ⟨o1, o2, rfl, e⟩
      repeat walk_at "st"
      refine w_lenS (by rw [sx_len]; have := sizeLine_eq; omega) ?_
      repeat walk_at "st"
      refine w_ite (fun h1 => ?_) (fun _ => ?_)
      · rw [sx_len] at h1
        omega
      · repeat walk_at "st"
        exact k _ e
theorem d_Setting_limit (T : Txt K mg) (h0 : Bool) {f : Addr} (F : FA K "limit" "Setting.limit" s_Setting_limit [] f) : Fr P w K mg base 1 f ["self"] [] (spSetLimit K h0) := by
  refine fr_of0 F (fun _ _ _ _ _ _ us hl => match us, hl with | [_], _ => rfl) sc_Setting_limit (fun vs H Q E h => ?_) (fun fa cdv A outer s H vs Q E hr h => ?_)
  · obtain ⟨a, dx, l, n, rfl, _⟩ := h
    rfl
  · obtain ⟨a, dx, l, n, rfl, ha, k⟩ := h
    refine ⟨_, PSs.nox (pss_one (ps_ret (pe_fld (pv 0) rfl))), ?_⟩
    refine w_start (σ := [some (.ref a)]) rfl ?_
    repeat walk_at "st"
    exact k
theorem len_Setting_init {h0 : Bool} : ∀ vs H Q E, spSetInit K h0 vs H Q E → vs.length = 3 := by
  rintro vs H Q E ⟨x, dx, q, lim, k, n, rfl, _⟩
  rfl
theorem b_Setting_init (T : Txt K mg) (h0 : Bool) (c_need_letters : Dn P w K mg base 3 "need_letters" s_need_letters ["value"] (spNeedL)) (c_Free___init__ : Fr P w K mg base 1 (He.ma K (cLim K .free) "__init__") ["self"] [] (spLimInit K .free)) : BodyOk P w K mg base 4 "Setting.__init__" s_Setting___init__ ["self", "letters", "limit"] (spSetInit K h0) := by
  refine fun fa cdv A outer s H vs Q E hr h => ?_
  obtain ⟨x, dx, q, lim, lk, n, rfl, q1, q2, hx, hlim, k⟩ := h
  refine ⟨_, PSs.nox (pss_cons (ps_expr (pe_d c_need_letters hr (by decide) rfl (pa_cons (pv 1) pa_nil)))
 (pss_cons (ps_if (PW.pt (pw_and (pt_cmpR op_notN' (pv 2) pe_non (nomark _)) (pw_and1 (pt_not (pt_val (pe_callB call_isi (by rfl) T.n_isinstance (by decide +kernel) (pa_cons (pv 2) (pa_cons (pe_gc rfl (T.gc_Limit)) pa_nil))) (by intro _; rfl))))))
 (pss_one ps_never)
 pss_nil)
 (pss_cons (ps_fld (pv 0) (pv 1) rfl)
 (pss_one (ps_fld (pv 0) (pe_ifExp (pt_cmpR op_isN' (pv 2) pe_non (nomark _)) (pe_mk0 c_Free___init__ (T.mk_lim .free) (T.gc_lim .free) hr (by decide) rfl) (pv 2)) rfl))))), ?_⟩
  refine w_start (σ := [some (.ref x), some (.int q), some lim]) rfl ?_
  repeat walk_at "st"
  refine ⟨q, rfl, q1, q2, ?_⟩
  repeat walk_at "st"
  rcases hlim with ⟨rfl, rfl, rfl⟩ | ⟨l, rfl, dl, hl⟩
  · with_reducible refine w_seq ?_
    repeat walk_at "st"
    refine fun l dl hl hdl ne => ⟨l, dl, 0, rfl, rfl, by walk_at "hp", rfl, ?_⟩
    have nx : x ≠ l := ne_of_none (show upd H x _ x = some _ from upd_same) hl
    have nd : x ≠ dl := ne_of_none (show upd H x _ x = some _ from upd_same) hdl
    have hl0 : H l = none := by rw [upd_ne nx.symm] at hl; exact hl
    have hd0 : H dl = none := by rw [upd_ne nd.symm] at hdl; exact hdl
    repeat walk_at "st"
    exact k _ l ((((((Keep.refl x H).upd).new hd0).new hl0).new hl0).upd) (by rw [upd_same]; rfl) ⟨dl, by walk_at "hp"⟩
  · with_reducible refine w_seq ?_
    repeat walk_at "st"
    refine w_isaT hl (T.cl_lim lk) (T.isa_lim lk) ?_
    repeat walk_at "st"
    have nl : l ≠ x := fun e => by
      rw [e, hx] at hl
      injection hl with hl
      injection hl with _ _ hl
      cases lk <;> cases hl
    exact k _ l ((Keep.refl x H).upd.upd) (by rw [upd_same]; rfl) ⟨dl, by walk_at "hp"⟩
theorem init1 (T : Txt K mg) (h0 : Bool) {f : Addr} (F : FA K "__init__" "Setting.__init__" s_Setting___init__ [.non] f) (c_need_letters : Dn P w K mg base 3 "need_letters" s_need_letters ["value"] (spNeedL)) (c_Free___init__ : Fr P w K mg base 1 (He.ma K (cLim K .free) "__init__") ["self"] [] (spLimInit K .free)) : Fr P w K mg base (4 + 1) f ["self", "letters", "limit"] [.non] (spSetInit K h0) :=
  fr_ofD 2 0 F (by simp) rfl (fun _ _ _ _ _ _ _ us its h1 h2 => match us, its, h1, h2 with | [_, _], [_], _, _ => ⟨_, rfl, rfl⟩) sc_Setting___init__ len_Setting_init (b_Setting_init T h0 c_need_letters c_Free___init__)
theorem init2 (T : Txt K mg) (h0 : Bool) {f : Addr} (F : FA K "__init__" "Setting.__init__" s_Setting___init__ [.non] f) (c_need_letters : Dn P w K mg base 3 "need_letters" s_need_letters ["value"] (spNeedL)) (c_Free___init__ : Fr P w K mg base 1 (He.ma K (cLim K .free) "__init__") ["self"] [] (spLimInit K .free)) : Fr P w K mg base (4 + 1) f ["self", "letters", "limit"] [] (spSetInit K h0) :=
  fr_ofD 3 1 F (by simp) rfl (fun _ _ _ _ _ _ _ us its h1 h2 => match us, its, h1, h2 with | [_, _, _], [_], _, _ => ⟨_, rfl, rfl⟩) sc_Setting___init__ len_Setting_init (b_Setting_init T h0 c_need_letters c_Free___init__)
end

end Pt_sett
section Pt_num
/-! ### numbers and their texts -/
/-- the codes of str(n) -/
def intL : Int → List Nat
  | .ofNat n => TL.numL n
  | .negSucc n => 45 :: TL.numL (n + 1)
theorem toString_S (n : Int) : (Str.ofString (toString n)) = SX.S (intL n) := by
  cases n with
  | ofNat n =>
    rw [← SX.S_tl (Str.ofString (toString (Int.ofNat n)))]
    exact congrArg SX.S (TL.tl_num n)
  | negSucc n =>
    rw [← SX.S_tl (Str.ofString (toString (Int.negSucc n)))]
    refine congrArg SX.S ?_
    have e : toString (Int.negSucc n) = "-" ++ Nat.repr (n + 1) := rfl
    rw [e, PyProof.Rows.signs_ofString, String.toList_append, List.map_append, Nat.toList_repr]
    rfl
theorem intL_nat (n : Nat) : intL (n : Int) = TL.numL n := rfl
theorem numL_45 (n : Nat) : 45 ∉ TL.numL n := TL.numL_free (.inl (by decide))
theorem intL_inj {m n : Int} (h : intL m = intL n) : m = n := by
  cases m with
  | ofNat m => cases n with
    | ofNat n => exact congrArg Int.ofNat (TL.numL_inj h)
    | negSucc n => exact absurd (show 45 ∈ TL.numL m by rw [show TL.numL m = 45 :: TL.numL (n + 1) from h]; exact List.mem_cons_self) (numL_45 m)
  | negSucc m => cases n with
    | ofNat n => exact absurd (show 45 ∈ TL.numL n by rw [← show 45 :: TL.numL (m + 1) = TL.numL n from h]; exact List.mem_cons_self) (numL_45 n)
    | negSucc n =>
      injection (show 45 :: TL.numL (m + 1) = 45 :: TL.numL (n + 1) from h) with _ h2
      have := TL.numL_inj h2
      congr 1
      omega
theorem intL_len {n : Int} {k : Nat} (hk : 0 < k) (h : n.natAbs < 10 ^ k) : (intL n).length ≤ k + 1 := by
  cases n with
  | ofNat n => exact Nat.le_trans (TL.numL_len hk h) (Nat.le_succ _)
  | negSucc n => exact Nat.succ_le_succ (TL.numL_len hk h)
theorem intL_codes (n : Int) : ∀ c ∈ intL n, c = 45 ∨ (48 ≤ c ∧ c ≤ 57) := by
  intro c hc
  cases n with
  | ofNat n => exact .inr (TL.numL_digits n c hc)
  | negSucc n =>
    rcases List.mem_cons.mp (show c ∈ 45 :: TL.numL (n + 1) from hc) with rfl | h
    · exact .inl rfl
    · exact .inr (TL.numL_digits _ c h)
theorem log_lt {n : Int} (h : n.natAbs < 10 ^ 100) : n.natAbs.log2 < 1920 := PySem.Flt.log2_lt_of (by decide) (Nat.lt_of_lt_of_le h (by decide +kernel))
/-- the figures of a text: without a sign ahead -/
def figL : List Nat → List Nat
  | 45 :: r => r
  | l => l
def digL : List Nat := (List.range 10).map (48 + ·)
theorem dig_S : ("0123456789" : Str) = SX.S digL := by decide +kernel
theorem dig_iff {c : Nat} : c ∈ digL ↔ 48 ≤ c ∧ c ≤ 57 := by
  unfold digL
  rw [List.mem_map]
  constructor
  · rintro ⟨a, ha, rfl⟩
    have := List.mem_range.mp ha
    omega
  · rintro ⟨h1, h2⟩
    exact ⟨c - 48, List.mem_range.mpr (by omega), by omega⟩
def okL (l : List Nat) : Bool := !decide (figL l = []) && (decide ((figL l).length ≤ 60) && (figL l).all fun c => decide (c ∈ digL))
def valL : List Nat → Int
  | 45 :: r => -((NumText.digitsVal r : Nat) : Int)
  | l => ((NumText.digitsVal l : Nat) : Int)
/-- the integer that a text tells just as str writes it, of at most 60 figures -/
def numO (l : List Nat) : Option Int := if okL l = true ∧ intL (valL l) = l then some (valL l) else none
theorem okL_parts {l : List Nat} (h : okL l = true) : figL l ≠ [] ∧ (figL l).length ≤ 60 ∧ NumText.AllDigits (figL l) := by
  unfold okL at h
  rw [Bool.and_eq_true, Bool.and_eq_true, Bool.not_eq_true', decide_eq_false_iff_not, decide_eq_true_iff, List.all_eq_true] at h
  exact ⟨h.1, h.2.1, fun c hc => dig_iff.mp (of_decide_eq_true (h.2.2 c hc))⟩
theorem fig_split (l : List Nat) : (∃ r, l = 45 :: r ∧ figL l = r ∧ valL l = -((NumText.digitsVal r : Nat) : Int)) ∨ (l.take 1 ≠ [45] ∧ figL l = l ∧ valL l = ((NumText.digitsVal l : Nat) : Int)) := by
  cases l with
  | nil => exact .inr ⟨by decide, rfl, rfl⟩
  | cons c r =>
    by_cases h : c = 45
    · subst h
      exact .inl ⟨r, rfl, rfl, rfl⟩
    · refine .inr ⟨fun e => h (by injection e), ?_, ?_⟩
      · unfold figL
        split
        · rename_i r' e
          injection e with e1 _
          exact absurd e1 h
        · rfl
      · unfold valL
        split
        · rename_i r' e
          injection e with e1 _
          exact absurd e1 h
        · rfl
theorem digitsVal_lt : ∀ (l : List Nat) (acc : Nat), NumText.AllDigits l → l.foldl (fun acc c => acc * 10 + (c - 48)) acc < (acc + 1) * 10 ^ l.length
  | [], acc, _ => by simp
  | c :: l, acc, h => by
    have hc := h c List.mem_cons_self
    have ih := digitsVal_lt l (acc * 10 + (c - 48)) fun d hd => h d (List.mem_cons_of_mem _ hd)
    rw [List.foldl_cons, List.length_cons, Nat.pow_succ]
    refine Nat.lt_of_lt_of_le ih ?_
    have h1 : acc * 10 + (c - 48) + 1 ≤ (acc + 1) * 10 := by omega
    have h2 := Nat.mul_le_mul_right (10 ^ l.length) h1
    rw [Nat.mul_assoc] at h2
    rw [Nat.mul_comm (10 ^ l.length) 10]
    exact h2
theorem digits_lt {l : List Nat} (h : NumText.AllDigits l) (hl : l.length ≤ 60) : NumText.digitsVal l < 10 ^ 60 := by
  have h1 := digitsVal_lt l 0 h
  refine Nat.lt_of_lt_of_le h1 ?_
  rw [Nat.zero_add, Nat.one_mul]
  exact Nat.pow_le_pow_right (by decide) hl
theorem valL_lt {l : List Nat} (h : okL l = true) : (valL l).natAbs < 10 ^ 60 := by
  obtain ⟨_, h2, h3⟩ := okL_parts h
  rcases fig_split l with ⟨r, rfl, e1, e2⟩ | ⟨_, e1, e2⟩
  · rw [e2, Int.natAbs_neg, Int.natAbs_natCast]
    rw [e1] at h2 h3
    exact digits_lt h3 h2
  · rw [e2, Int.natAbs_natCast]
    rw [e1] at h2 h3
    exact digits_lt h3 h2
theorem int_ok {l : List Nat} (h : okL l = true) : PySem.intText? (SX.S l) = some (valL l) ∧ (SX.S l).length ≤ 640 := by
  obtain ⟨h1, h2, h3⟩ := okL_parts h
  rcases fig_split l with ⟨r, rfl, e1, e2⟩ | ⟨_, e1, e2⟩
  · rw [e1] at h1 h2 h3
    rw [e2, sx_len, List.length_cons]
    exact ⟨PySem.intText_neg (x := SX.S (45 :: r)) (cs := r) rfl h3 h1 (by rw [sx_len, List.length_cons]; omega), by omega⟩
  · rw [e1] at h1 h2 h3
    rw [e2, sx_len]
    exact ⟨PySem.intText_digits (x := SX.S l) h3 h1 (by rw [sx_len]; omega), by omega⟩
theorem numO_intL {n m : Int} (h : numO (intL n) = some m) : m = n := by
  unfold numO at h
  split at h
  · rename_i c
    cases h
    exact intL_inj c.2
  · cases h
/-- what number_of tells -/
def numV (l : List Nat) (lo hi : Int) : V := match numO l with
  | some n => if lo ≤ n ∧ n ≤ hi then .int n else .non
  | none => .non

end Pt_num
section Pt_numof
/-! ### number_of -/
theorem dash_S : ("-" : Str) = SX.S [45] := rfl
theorem empty_S : ("" : Str) = SX.S [] := rfl
def spNumOf : Sp := fun vs H Q _ => ∃ (l : List Nat) (lo hi : Int), vs = [.str (SX.S l), .int lo, .int hi] ∧ l.length ≤ 1000000 ∧ ∀ H', Same H H' → Q (numV l lo hi) H'
theorem numV_none {l : List Nat} {lo hi : Int} (h : numO l = none) : numV l lo hi = .non := by
  unfold numV
  rw [h]
theorem numV_out {l : List Nat} {lo hi n : Int} (h : numO l = some n) (h2 : ¬ (lo ≤ n ∧ n ≤ hi)) : numV l lo hi = .non := by
  unfold numV
  rw [h]
  exact if_neg h2
theorem numV_in {l : List Nat} {lo hi n : Int} (h : numO l = some n) (h2 : lo ≤ n ∧ n ≤ hi) : numV l lo hi = .int n := by
  unfold numV
  rw [h]
  exact if_pos h2
theorem numO_bad {l : List Nat} (h : ¬ okL l = true) : numO l = none := if_neg fun z => h z.1
theorem all_dig (l : List Nat) : (l.map fun c => decide (c ∈ digL)).all id = l.all fun c => decide (c ∈ digL) := by
  rw [List.all_map]
  rfl
section
variable {P : Program} {w : World} {K : PySem.W.Frag} {mg : Str → Option Value} {base : Heap}
theorem d_number_of (T : Txt K mg) (F : FD K mg "number_of" s_number_of) : Dn P w K mg base 1 "number_of" s_number_of ["word", "least", "most"] (spNumOf) := by
  refine dn_of F (fun _ _ _ _ _ _ us hl => match us, hl with | [_, _, _], _ => rfl) sc_number_of (fun vs H Q E h => ?_) (fun fa cdv A outer s H vs Q E hr h => ?_)
  · obtain ⟨l, lo, hi, rfl, _⟩ := h
    rfl
  · obtain ⟨l, lo, hi, rfl, hl, k⟩ := h
    have hz : (SX.S l).length ≤ sizeLine := by
      rw [sx_len]
      exact Nat.le_trans hl (by decide)
    refine ⟨_, PSs.nox (pss_cons (ps_set (i := 3) sc_number_of.nd rfl (Or.inl rfl) (pe_ifExp (pt_cmpR op_eq (pe_slice sl_str (pv 0) po_none (po_some pe_int)) pe_str (nomark _)) (pe_slice sl_str (pv 0) (po_some pe_int) po_none) (pv 0)))
 (pss_cons (ps_if (PW.pt (pw_or (pt_cmpR op_eq (pv 3) pe_str (nomark _)) (pw_or (pt_cmpR op_gt (pe_callB cl_lenS (by rfl) T.n_len (by decide +kernel) (pa_cons (pv 3) pa_nil)) (pe_gv rfl T.g_MOST_FIGURES) (nomark _)) (pw_or1 (pt_not (pt_val (pe_callB (cr_all rfl) (by rfl) T.n_all (by decide +kernel) (pa_cons (pe_lc (own := [("sign", 5)]) (tt := tYes) (g := gName 5) rfl sc_number_of.nd (pi_str (pv 3)) (blkOk_by (N := ["word", "least", "most", "digits", "number", "sign"]) (sc := defScope s_number_of) (by decide +kernel)) (fun _ _ _ _ _ => (pg_name (i := 5) sc_number_of.nd rfl (Or.inl rfl))) (fun _ _ _ _ _ => pts_nil) (fun _ _ _ _ _ => (pe_cmpR op_in1 (pv 5) pe_str (by rfl)))) pa_nil)) (by intro _; rfl)))))))
 (pss_one (ps_ret pe_non))
 pss_nil)
 (pss_cons (ps_set (i := 4) sc_number_of.nd rfl (Or.inl rfl) (pe_callTy cl_intS (by rfl) T.n_int (by decide +kernel) (pa_cons (pv 0) pa_nil)))
 (pss_one (ps_ret (pe_ifExp (PW.pt (pw_and (pt_cmpR op_eq (pe_callTy cl_strI (by rfl) T.n_str (by decide +kernel) (pa_cons (pv 4) pa_nil)) (pv 0) (nomark _)) (pw_and1 (pt_chain op_le op_le (pv 1) (pv 4) (pv 2))))) (pv 4) pe_non)))))), ?_⟩
    refine w_start (σ := [some (.str (SX.S l)), some (.int lo), some (.int hi), none, none, none]) rfl ?_
    with_reducible refine w_join (fun σ' H' => σ' = [some (.str (SX.S l)), some (.int lo), some (.int hi), some (.str (SX.S (figL l))), none, none] ∧ H' = H) (fun X hX => ?_) ?_
    · repeat walk_at "st"
      rw [cutS_to (by decide), dash_S, eqS]
      rcases fig_split l with ⟨r, rfl, e1, _⟩ | ⟨h1, e1, _⟩
      · refine w_iteT (by rfl) ?_
        repeat walk_at "st"
        rw [cutS_from (by decide)]
        exact hX _ _ ⟨by rw [e1]; rfl, rfl⟩
      · refine w_iteF (decide_eq_false h1) ?_
        repeat walk_at "st"
        exact hX _ _ ⟨by rw [e1], rfl⟩
    · rintro σ' H' ⟨rfl, rfl⟩
      have hf : (SX.S (figL l)).length ≤ sizeLine := by
        rw [sx_len]
        refine Nat.le_trans ?_ hz
        rw [sx_len]
        rcases fig_split l with ⟨r, rfl, e1, _⟩ | ⟨_, e1, _⟩
        · rw [e1, List.length_cons]
          omega
        · rw [e1]
          exact Nat.le_refl _
      with_reducible refine w_join (fun σ' H'' => okL l = true ∧ σ' = [some (.str (SX.S l)), some (.int lo), some (.int hi), some (.str (SX.S (figL l))), none, none] ∧ Same H' H'') (fun X hX => ?_) ?_
      · repeat walk_at "st"
        rw [empty_S, eqS]
        refine w_ite (fun h1 => ?_) (fun h1 => ?_)
        · repeat walk_at "st"
          rw [numV_none (numO_bad fun z => (okL_parts z).1 h1)] at k
          exact k _ (Same.refl _)
        · repeat walk_at "st"
          rw [sx_len]
          refine w_ite (fun h2 => ?_) (fun h2 => ?_)
          · repeat walk_at "st"
            rw [numV_none (numO_bad fun z => by have := (okL_parts z).2.1; omega)] at k
            exact k _ (Same.refl _)
          · repeat walk_at "st"
            refine lc_str H' (SX.S (figL l)) (fun c => .bl (decide (c ∈ digL))) (fun R hR => ?_) hf (fun c hc H1 e R hR => ?_) fun D H1 h3 h4 h5 => ?_
            · repeat walk_at "st"
              exact hR
            · simp only [wipe, List.map, List.set]
              repeat walk_at "st"
              rw [dig_S]
              exact hR _ (Same.refl _)
            · repeat walk_at "st"
              refine w_all (bs := (figL l).map fun c => decide (c ∈ digL)) (by rw [h5, List.map_map]; rfl) ?_
              rw [all_dig]
              repeat walk_at "st"
              cases h6 : (figL l).all fun c => decide (c ∈ digL) with
              | false =>
                refine w_iteT rfl ?_
                repeat walk_at "st"
                have h7 : ¬ okL l = true := by
                  unfold okL
                  rw [h6]
                  simp
                rw [numV_none (numO_bad h7)] at k
                exact k _ h4
              | true =>
                refine w_iteF rfl ?_
                repeat walk_at "st"
                refine hX _ _ ⟨?_, rfl, h4⟩
                unfold okL
                rw [h6, decide_eq_false h1, decide_eq_true (show (figL l).length ≤ 60 by omega)]
                rfl
      · rintro σ' H1 ⟨ok, rfl, e⟩
        obtain ⟨hi1, hi2⟩ := int_ok ok
        repeat walk_at "st"
        refine w_intS hi1 hi2 ?_
        repeat walk_at "st"
        refine w_strI (log_lt (Nat.lt_of_lt_of_le (valL_lt ok) (by decide +kernel))) ?_
        repeat walk_at "st"
        rw [toString_S, eqS]
        refine w_ite (fun h1 => ?_) (fun h1 => ?_)
        · have hn : numO l = some (valL l) := if_pos ⟨ok, h1⟩
          repeat walk_at "st"
          refine w_ite (fun h2 => ?_) (fun h2 => ?_)
          · repeat walk_at "st"
            refine w_ite (fun h3 => ?_) (fun h3 => ?_)
            · repeat walk_at "st"
              rw [numV_in hn ⟨h2, h3⟩] at k
              exact k _ e
            · repeat walk_at "st"
              rw [numV_out hn fun z => h3 z.2] at k
              exact k _ e
          · repeat walk_at "st"
            rw [numV_out hn fun z => h2 z.1] at k
            exact k _ e
        · repeat walk_at "st"
          rw [numV_none (if_neg fun z => h1 z.2)] at k
          exact k _ e
end

end Pt_numof
section Pt_great
/-! ### the staircases, plainly -/
def tri (c : Int) : Int := c * (c + 1) / 2
def longO : LimK → Int → Option Int
  | .short, n => some n
  | .standing, n => some (n + 1)
  | _, _ => none
/-- so many letters the texts of c codes have at most -/
def greatO (k : LimK) (n c : Int) : Int := match k with
  | .cleared => c / n * (n * (n + 1) / 2) + c % n * (c % n + 1) / 2
  | .free => tri c
  | .short => if c ≤ n then tri c else tri n + (c - n) * n
  | .standing => if c ≤ n + 1 then tri c else tri (n + 1) + (c - (n + 1)) * (n + 1)
/-- the letters of the code behind c codes -/
def stepO (k : LimK) (n c : Int) : Int := match k with
  | .cleared => 1 + c % n
  | .free => c + 1
  | .short => min (c + 1) n
  | .standing => min (c + 1) (n + 1)
theorem tri_step (c : Int) : tri (c + 1) = tri c + (c + 1) := by
  unfold tri
  have e : (c + 1) * (c + 1 + 1) = c * (c + 1) + (c + 1) * 2 := by
    rw [show c + 1 + 1 = c + 2 by omega, Int.mul_add, Int.mul_comm (c + 1) c]
  rw [e, Int.add_mul_ediv_right _ _ (by decide)]
theorem cap_step {n c : Int} (h : 0 ≤ c) : (if c + 1 ≤ n then tri (c + 1) else tri n + (c + 1 - n) * n) = (if c ≤ n then tri c else tri n + (c - n) * n) + min (c + 1) n := by
  by_cases h1 : c + 1 ≤ n
  · rw [if_pos h1, if_pos (by omega), tri_step]
    omega
  · by_cases h2 : c ≤ n
    · have e : c = n := by omega
      subst e
      rw [if_neg h1, if_pos h2, show c + 1 - c = 1 by omega]
      omega
    · rw [if_neg h1, if_neg h2, show c + 1 - n = (c - n) + 1 by omega, Int.add_mul]
      omega
theorem great_step {k : LimK} {n c : Int} (ok : limOk k n) (h : 0 ≤ c) : greatO k n (c + 1) = greatO k n c + stepO k n c := by
  cases k with
  | free => exact tri_step c
  | short => exact cap_step h
  | standing => exact cap_step h
  | cleared =>
    have hn : 1 ≤ n := ok.1
    obtain ⟨q, eq⟩ : ∃ q, q = c / n := ⟨_, rfl⟩
    obtain ⟨r, er⟩ : ∃ r, r = c % n := ⟨_, rfl⟩
    have r0 : 0 ≤ r := by rw [er]; exact Int.emod_nonneg _ (by omega)
    have r1 : r < n := by rw [er]; exact Int.emod_lt_of_pos _ (by omega)
    have ec : r + n * q = c := by rw [er, eq]; exact Int.emod_add_mul_ediv c n
    show (c + 1) / n * tri n + tri ((c + 1) % n) = (c / n * tri n + tri (c % n)) + (1 + c % n)
    rw [← eq, ← er]
    by_cases h1 : r + 1 < n
    · obtain ⟨e1, e2⟩ := (Int.ediv_emod_unique (a := c + 1) (b := n) (q := q) (r := r + 1) (by omega)).mpr ⟨by omega, by omega, h1⟩
      rw [e1, e2, tri_step]
      omega
    · have e3 : r + 1 = n := by omega
      obtain ⟨e1, e2⟩ := (Int.ediv_emod_unique (a := c + 1) (b := n) (q := q + 1) (r := 0) (by omega)).mpr ⟨by rw [Int.mul_add]; omega, by omega, by omega⟩
      have e4 : tri n = tri r + (r + 1) := by rw [← e3, tri_step]
      rw [e1, e2, Int.add_mul, show tri 0 = 0 from rfl]
      omega
theorem step_pos {k : LimK} {n c : Int} (ok : limOk k n) (h : 0 ≤ c) : 1 ≤ stepO k n c := by
  cases k with
  | free => show 1 ≤ c + 1; omega
  | short => have := ok.1; show 1 ≤ min (c + 1) n; omega
  | standing => have := ok.1; show 1 ≤ min (c + 1) (n + 1); omega
  | cleared =>
    have := ok.1
    have := Int.emod_nonneg c (show n ≠ 0 by omega)
    show 1 ≤ 1 + c % n
    omega
theorem great_zero {k : LimK} {n : Int} (ok : limOk k n) : greatO k n 0 = 0 := by
  cases k with
  | free => rfl
  | short => have := ok.1; show (if (0 : Int) ≤ n then tri 0 else _) = 0; rw [if_pos (by omega)]; rfl
  | standing => have := ok.1; show (if (0 : Int) ≤ n + 1 then tri 0 else _) = 0; rw [if_pos (by omega)]; rfl
  | cleared => show 0 / n * tri n + tri (0 % n) = 0; rw [Int.zero_ediv, Int.zero_emod, Int.zero_mul]; rfl
theorem great_grow {k : LimK} {n : Int} (ok : limOk k n) : ∀ (d : Nat) (a : Int), 0 ≤ a → greatO k n a + d ≤ greatO k n (a + d)
  | 0, a, _ => by simp
  | d + 1, a, h => by
    have e := great_step (k := k) ok (show 0 ≤ a + d by omega)
    have p := step_pos (k := k) ok (show 0 ≤ a + d by omega)
    have i := great_grow ok d a h
    rw [show a + ((d + 1 : Nat) : Int) = a + d + 1 by omega, e]
    omega
theorem great_mono {k : LimK} {n a b : Int} (ok : limOk k n) (h : 0 ≤ a) (hab : a ≤ b) : greatO k n a + (b - a) ≤ greatO k n b := by
  have i := great_grow ok (b - a).toNat a h
  rw [show ((b - a).toNat : Int) = b - a by omega, show a + (b - a) = b by omega] at i
  exact i
theorem great_ge {k : LimK} {n c : Int} (ok : limOk k n) (h : 0 ≤ c) : c ≤ greatO k n c := by
  have i := great_mono (a := 0) ok (by decide) h
  rw [great_zero ok] at i
  omega
/-- the least c with so many letters -/
def Least (k : LimK) (n z r : Int) : Prop := 0 ≤ r ∧ z ≤ greatO k n r ∧ ∀ c, 0 ≤ c → c < r → greatO k n c < z
theorem Least.one {k : LimK} {n z r r' : Int} (a : Least k n z r) (b : Least k n z r') : r = r' := by
  obtain ⟨a1, a2, a3⟩ := a
  obtain ⟨b1, b2, b3⟩ := b
  rcases Int.lt_trichotomy r r' with h | h | h
  · have := b3 r a1 h
    omega
  · exact h
  · have := a3 r' b1 h
    omega

end Pt_great
section Pt_lev
/-! ### need_number, need_size, need_setting, levels.py -/
def spNeedNum : Sp := fun vs H Q _ => ∃ i lo hi : Int, vs = [.int i, .int lo, .int hi] ∧ lo ≤ i ∧ i ≤ hi ∧ Q .non H
def spNeedSize : Sp := fun vs H Q _ => ∃ i : Int, vs = [.int i] ∧ 0 ≤ i ∧ i ≤ 1000000000000000000000000000000 ∧ Q .non H
def spNeedSet (K : PySem.W.Frag) : Sp := fun vs H Q _ => ∃ a S z, vs = [.ref a, .str z] ∧ SetAt K H a S ∧ Q .non H
def optI : Option Int → V
  | none => .non
  | some n => .int n
def spLongC (K : PySem.W.Frag) : Sp := fun vs H Q _ => ∃ a S, vs = [.ref a] ∧ SetAt K H a S ∧ Q (optI (longO S.lk S.ln)) H
def spGreat (K : PySem.W.Frag) : Sp := fun vs H Q _ => ∃ a S c, vs = [.ref a, .int c] ∧ SetAt K H a S ∧ limOk S.lk S.ln ∧ 0 ≤ c ∧ c ≤ 1000000000000000000000000000000 ∧ Q (.int (greatO S.lk S.ln c)) H
def spFewOf (K : PySem.W.Frag) : Sp := fun vs H Q _ => ∃ a S z, vs = [.ref a, .int z] ∧ SetAt K H a S ∧ limOk S.lk S.ln ∧ 0 ≤ z ∧ z ≤ 1000000000000000000000000000000 ∧ ∀ r, Least S.lk S.ln z r → r ≤ z → Q (.int r) H
theorem log_big {n : Int} (h0 : 0 ≤ n) (h : n ≤ 1000000000000000000000000000000) : n.natAbs.log2 < 101 := PySem.Flt.log2_lt_of (by decide) (Nat.lt_of_le_of_lt (show n.natAbs ≤ 1000000000000000000000000000000 by omega) (by decide +kernel))
theorem lim_small {k : LimK} {n : Int} (ok : limOk k n) : 0 ≤ n ∧ n ≤ 4096 := by
  cases k with
  | free => have e : n = 0 := ok; omega
  | short => have := ok.1; have := ok.2; omega
  | cleared => have := ok.1; have := ok.2; omega
  | standing => exact ⟨ok.1, ok.2⟩
theorem small_mul {i j : Int} (h0 : 0 ≤ j) (h1 : j ≤ 1000000000000) : CMulA i j := .inl (.inr ⟨by omega, by omega⟩)
theorem small_mul' {i j : Int} (h0 : 0 ≤ i) (h1 : i ≤ 1000000000000) : CMulA i j := .inl (.inl ⟨by omega, by omega⟩)
theorem big_mul {i j : Int} (h0 : 0 ≤ i) (h1 : i ≤ 1000000000000000000000000000001) (h2 : 0 ≤ j) (h3 : j ≤ 1000000000000000000000000000001) : CMulA i j := by
  have a : i.natAbs.log2 < 101 := PySem.Flt.log2_lt_of (by decide) (Nat.lt_of_le_of_lt (show i.natAbs ≤ 1000000000000000000000000000001 by omega) (by decide +kernel))
  have b : j.natAbs.log2 < 101 := PySem.Flt.log2_lt_of (by decide) (Nat.lt_of_le_of_lt (show j.natAbs ≤ 1000000000000000000000000000001 by omega) (by decide +kernel))
  exact .inr (by unfold CMulW; omega)
theorem two_div {i : Int} : CDivW i 2 := ⟨by decide, by decide +kernel⟩
theorem small_div {i j : Int} (h0 : 1 ≤ j) (h : j ≤ 5000) : CDivW i j := ⟨by omega, PySem.Flt.log2_lt_of (by decide) (Nat.lt_of_le_of_lt (show j.natAbs ≤ 5000 by omega) (by decide +kernel))⟩
set_option hygiene false in
local macro_rules | `(tactic| walk_at "st") => `(tactic| first
  | ((with_reducible refine' w_aug ?h ?_); (case h => exact rfl))
  | (with_reducible first | refine w_bm ?_ | refine w_fldAug ?_ | refine w_seqU ?_ | refine w_enumL ?_)
  | ((with_reducible refine' w_tyL ?h ?_); (case h => walk_at "hp"))
  | ((with_reducible refine' w_enumLAt ?h ?_); (case h => walk_at "hp")))

local macro_rules | `(tactic| walk_at "cond") => `(tactic| first | exact two_div | (refine small_div ?_ ?_ <;> omega) | (refine small_mul ?_ ?_ <;> omega) | (refine small_mul' ?_ ?_ <;> omega) | (refine big_mul ?_ ?_ ?_ ?_ <;> omega))
section
variable {P : Program} {w : World} {K : PySem.W.Frag} {mg : Str → Option Value} {base : Heap}
theorem d_need_number (T : Txt K mg) (F : FD K mg "need_number" s_need_number) (c_is_between : Dn P w K mg base 2 "is_between" s_is_between ["value", "least", "most"] (spBetween)) : Dn P w K mg base 3 "need_number" s_need_number ["value", "least", "most"] (spNeedNum) := by
  refine dn_of F (fun _ _ _ _ _ _ us hl => match us, hl with | [_, _, _], _ => rfl) sc_need_number (fun vs H Q E h => ?_) (fun fa cdv A outer s H vs Q E hr h => ?_)
  · obtain ⟨i, lo, hi, rfl, _⟩ := h
    rfl
  · obtain ⟨i, lo, hi, rfl, h1, h2, k⟩ := h
    refine ⟨_, PSs.nox (pss_one (ps_if (pt_not (pt_val (pe_d c_is_between hr (by decide) rfl (pa_cons (pv 0) (pa_cons (pv 1) (pa_cons (pv 2) pa_nil)))) (by intro _; rfl)))
 (pss_one ps_never)
 pss_nil)), ?_⟩
    refine w_start (σ := [some (.int i), some (.int lo), some (.int hi)]) rfl ?_
    repeat walk_at "st"
    refine ⟨.int i, "int", lo, hi, rfl, .int i, ?_⟩
    have e : betV lo hi (.int i) = true := by
      show (decide (lo ≤ i) && decide (i ≤ hi)) = true
      rw [decide_eq_true h1, decide_eq_true h2]
      rfl
    repeat walk_at "st"
    refine w_iteF (by rw [e]; rfl) ?_
    repeat walk_at "st"
    exact k
theorem d_need_size (T : Txt K mg) (F : FD K mg "need_size" s_need_size) (c_need_number : Dn P w K mg base 3 "need_number" s_need_number ["value", "least", "most"] (spNeedNum)) : Dn P w K mg base 4 "need_size" s_need_size ["value"] (spNeedSize) := by
  refine dn_of F (fun _ _ _ _ _ _ us hl => match us, hl with | [_], _ => rfl) sc_need_size (fun vs H Q E h => ?_) (fun fa cdv A outer s H vs Q E hr h => ?_)
  · obtain ⟨i, rfl, _⟩ := h
    rfl
  · obtain ⟨i, rfl, h1, h2, k⟩ := h
    refine ⟨_, PSs.nox (pss_one (ps_expr (pe_d c_need_number hr (by decide) rfl (pa_cons (pv 0) (pa_cons pe_int (pa_cons (pe_gv rfl T.g_MOST_SIZE) pa_nil)))))), ?_⟩
    refine w_start (σ := [some (.int i)]) rfl ?_
    repeat walk_at "st"
    refine ⟨i, 0, _, rfl, h1, h2, ?_⟩
    repeat walk_at "st"
    exact k
theorem d_need_setting (T : Txt K mg) (F : FD K mg "need_setting" s_need_setting) : Dn P w K mg base 1 "need_setting" s_need_setting ["value", "part"] (spNeedSet K) := by
  refine dn_of F (fun _ _ _ _ _ _ us hl => match us, hl with | [_, _], _ => rfl) sc_need_setting (fun vs H Q E h => ?_) (fun fa cdv A outer s H vs Q E hr h => ?_)
  · obtain ⟨a, S, z, rfl, _⟩ := h
    rfl
  · obtain ⟨a, S, z, rfl, ⟨dx, l, ha, _⟩, k⟩ := h
    refine ⟨_, PSs.nox (pss_one (ps_if (pt_not (pt_val (pe_callB call_isi (by rfl) T.n_isinstance (by decide +kernel) (pa_cons (pv 0) (pa_cons (pe_gc rfl (T.gc_Setting)) pa_nil))) (by intro _; rfl)))
 (pss_one ps_never)
 pss_nil)), ?_⟩
    refine w_start (σ := [some (.ref a), some (.str z)]) rfl ?_
    repeat walk_at "st"
    refine w_isaT ha (T.cl_set _) (T.isa_set _) ?_
    repeat walk_at "st"
    exact k
theorem d_longest_code (T : Txt K mg) (F : FD K mg "longest_code" s_longest_code) (c_set_limit : ∀ h : Bool, Fr P w K mg base 1 (gtA K (cSet K h) "limit") ["self"] [] (spSetLimit K h)) : Dn P w K mg base 3 "longest_code" s_longest_code ["setting"] (spLongC K) := by
  refine dn_of F (fun _ _ _ _ _ _ us hl => match us, hl with | [_], _ => rfl) sc_longest_code (fun vs H Q E h => ?_) (fun fa cdv A outer s H vs Q E hr h => ?_)
  · obtain ⟨a, S, rfl, _⟩ := h
    rfl
  · obtain ⟨a, S, rfl, hS, k⟩ := h
    obtain ⟨dx, l, ha, ⟨dl, hl⟩, q1, q2⟩ := hS
    obtain ⟨lk, elk⟩ : ∃ x, x = S.lk := ⟨_, rfl⟩
    obtain ⟨n, en⟩ : ∃ x, x = S.ln := ⟨_, rfl⟩
    rw [← elk, ← en] at hl k
    refine ⟨_, PSs.nox (pss_cons (ps_set (i := 1) sc_longest_code.nd rfl (Or.inl rfl) (pe_any fun h => pe_pr (c_set_limit h) (T.cl_set h) (T.pr_limit h) hr (by decide) (pv 0)))
 (pss_cons (ps_if (pt_val (pe_callB call_isi (by rfl) T.n_isinstance (by decide +kernel) (pa_cons (pv 1) (pa_cons (pe_gc rfl (T.gc_lim .short)) pa_nil))) (by intro _; rfl))
 (pss_one (ps_ret (pe_fld (pv 1) rfl)))
 pss_nil)
 (pss_one (ps_ret (pe_ifExp (pt_val (pe_callB call_isi (by rfl) T.n_isinstance (by decide +kernel) (pa_cons (pv 1) (pa_cons (pe_gc rfl (T.gc_lim .standing)) pa_nil))) (by intro _; rfl)) (pe_op op_add (pe_fld (pv 1) rfl) pe_int) pe_non))))), ?_⟩
    refine w_start (σ := [some (.ref a), none]) rfl ?_
    repeat walk_at "st"
    refine ⟨S.hid, ?_⟩
    repeat walk_at "st"
    refine ⟨a, dx, l, (S.q : Int), rfl, ha, ?_⟩
    repeat walk_at "st"
    with_reducible refine w_seq ?_
    repeat walk_at "st"
    refine w_isaB hl (T.cl_lim lk) (T.isa_k lk .short) ?_
    cases lk with
    | short =>
      repeat walk_at "st"
      exact k
    | free =>
      repeat walk_at "st"
      refine w_isaB hl (T.cl_lim _) (T.isa_k _ .standing) ?_
      repeat walk_at "st"
      exact k
    | cleared =>
      repeat walk_at "st"
      refine w_isaB hl (T.cl_lim _) (T.isa_k _ .standing) ?_
      repeat walk_at "st"
      exact k
    | standing =>
      repeat walk_at "st"
      refine w_isaB hl (T.cl_lim _) (T.isa_k _ .standing) ?_
      repeat walk_at "st"
      exact k
theorem d_greatest_of (T : Txt K mg) (F : FD K mg "greatest_of" s_greatest_of) (c_longest_code : Dn P w K mg base 3 "longest_code" s_longest_code ["setting"] (spLongC K)) (c_set_limit : ∀ h : Bool, Fr P w K mg base 1 (gtA K (cSet K h) "limit") ["self"] [] (spSetLimit K h)) : Dn P w K mg base 5 "greatest_of" s_greatest_of ["setting", "codes"] (spGreat K) := by
  refine dn_of F (fun _ _ _ _ _ _ us hl => match us, hl with | [_, _], _ => rfl) sc_greatest_of (fun vs H Q E h => ?_) (fun fa cdv A outer s H vs Q E hr h => ?_)
  · obtain ⟨a, S, c, rfl, _⟩ := h
    rfl
  · obtain ⟨a, S, c, rfl, hS, ok, c0, c1, k⟩ := h
    obtain ⟨dx, l, ha, ⟨dl, hl⟩, q1, q2⟩ := id hS
    obtain ⟨lk, elk⟩ : ∃ x, x = S.lk := ⟨_, rfl⟩
    obtain ⟨n, en⟩ : ∃ x, x = S.ln := ⟨_, rfl⟩
    rw [← elk, ← en] at hl k ok
    obtain ⟨n0, n1⟩ := lim_small ok
    refine ⟨_, PSs.nox (pss_cons (ps_set (i := 2) sc_greatest_of.nd rfl (Or.inl rfl) (pe_any fun h => pe_pr (c_set_limit h) (T.cl_set h) (T.pr_limit h) hr (by decide) (pv 0)))
 (pss_cons (ps_if (pt_val (pe_callB call_isi (by rfl) T.n_isinstance (by decide +kernel) (pa_cons (pv 2) (pa_cons (pe_gc rfl (T.gc_lim .cleared)) pa_nil))) (by intro _; rfl))
 (pss_cons (ps_set (i := 3) sc_greatest_of.nd rfl (Or.inl rfl) (pe_op op_mod (pv 1) (pe_fld (pv 2) rfl)))
 (pss_one (ps_ret (pe_op op_add (pe_op op_mulA (pe_op op_fdivW (pv 1) (pe_fld (pv 2) rfl)) (pe_op op_fdivW (pe_op op_mulA (pe_fld (pv 2) rfl) (pe_op op_add (pe_fld (pv 2) rfl) pe_int)) pe_int)) (pe_op op_fdivW (pe_op op_mulA (pv 3) (pe_op op_add (pv 3) pe_int)) pe_int)))))
 pss_nil)
 (pss_cons (ps_set (i := 4) sc_greatest_of.nd rfl (Or.inl rfl) (pe_d c_longest_code hr (by decide) rfl (pa_cons (pv 0) pa_nil)))
 (pss_cons (ps_if (PW.pt (pw_or (pt_cmpR op_isN' (pv 4) pe_non (nomark _)) (pw_or1 (pt_cmpR op_le (pv 1) (pv 4) (nomark _)))))
 (pss_one (ps_ret (pe_op op_fdivW (pe_op op_mulA (pv 1) (pe_op op_add (pv 1) pe_int)) pe_int)))
 pss_nil)
 (pss_one (ps_ret (pe_op op_add (pe_op op_fdivW (pe_op op_mulA (pv 4) (pe_op op_add (pv 4) pe_int)) pe_int) (pe_op op_mulA (pe_op op_sub (pv 1) (pv 4)) (pv 4))))))))), ?_⟩
    refine w_start (σ := [some (.ref a), some (.int c), none, none, none]) rfl ?_
    repeat walk_at "st"
    refine ⟨S.hid, ?_⟩
    repeat walk_at "st"
    refine ⟨a, dx, l, (S.q : Int), rfl, ha, ?_⟩
    repeat walk_at "st"
    with_reducible refine w_seq ?_
    repeat walk_at "st"
    refine w_isaB hl (T.cl_lim lk) (T.isa_k lk .cleared) ?_
    cases lk with
    | cleared =>
      have m1 : 1 ≤ n := ok.1
      have r0 := Int.emod_nonneg c (show n ≠ 0 by omega)
      have r1 := Int.emod_lt_of_pos c (show 0 < n by omega)
      have t1 : n * (n + 1) ≤ 4096 * 4097 := Int.mul_le_mul (by omega) (by omega) (by omega) (by omega)
      have t0 : 0 ≤ n * (n + 1) := Int.mul_nonneg (by omega) (by omega)
      repeat walk_at "st"
      exact k
    | free =>
      repeat walk_at "st"
      refine ⟨a, _, rfl, hS, ?_⟩
      rw [← elk, ← en]
      repeat walk_at "st"
      with_reducible refine w_seq ?_
      rw [show optI (longO .free n) = V.non from rfl]
      repeat walk_at "st"
      exact k
    | short =>
      repeat walk_at "st"
      refine ⟨a, _, rfl, hS, ?_⟩
      rw [← elk, ← en]
      repeat walk_at "st"
      with_reducible refine w_seq ?_
      rw [show optI (longO .short n) = V.int n from rfl]
      repeat walk_at "st"
      refine w_ite (fun h1 => ?_) (fun h1 => ?_)
      · repeat walk_at "st"
        rw [show greatO .short n c = tri c from if_pos h1] at k
        exact k
      · repeat walk_at "st"
        rw [show greatO .short n c = tri n + (c - n) * n from if_neg h1] at k
        exact k
    | standing =>
      repeat walk_at "st"
      refine ⟨a, _, rfl, hS, ?_⟩
      rw [← elk, ← en]
      repeat walk_at "st"
      with_reducible refine w_seq ?_
      rw [show optI (longO .standing n) = V.int (n + 1) from rfl]
      repeat walk_at "st"
      refine w_ite (fun h1 => ?_) (fun h1 => ?_)
      · repeat walk_at "st"
        rw [show greatO .standing n c = tri c from if_pos h1] at k
        exact k
      · repeat walk_at "st"
        rw [show greatO .standing n c = tri (n + 1) + (c - (n + 1)) * (n + 1) from if_neg h1] at k
        exact k
theorem d_fewest_of (T : Txt K mg) (F : FD K mg "fewest_of" s_fewest_of) (c_greatest_of : Dn P w K mg base 5 "greatest_of" s_greatest_of ["setting", "codes"] (spGreat K)) : Dn P w K mg base 6 "fewest_of" s_fewest_of ["setting", "size"] (spFewOf K) := by
  refine dn_of F (fun _ _ _ _ _ _ us hl => match us, hl with | [_, _], _ => rfl) sc_fewest_of (fun vs H Q E h => ?_) (fun fa cdv A outer s H vs Q E hr h => ?_)
  · obtain ⟨a, S, z, rfl, _⟩ := h
    rfl
  · obtain ⟨a, S, z, rfl, hS, ok, z0, z1, k⟩ := h
    refine ⟨_, PSs.nox (pss_cons (ps_par (i := 2) (j := 3) (by rfl) sc_fewest_of.nd rfl rfl (by decide) rfl rfl (pa_cons pe_int (pa_cons (pv 1) pa_nil)) (by rfl))
 (pss_cons (ps_while PassesOwn.never (pt_cmpR op_lt (pv 2) (pv 3) (nomark _))
 (pss_cons (ps_set (i := 4) sc_fewest_of.nd rfl (Or.inl rfl) (pe_op op_fdivW (pe_op op_add (pv 2) (pv 3)) pe_int))
 (pss_one (ps_if (pt_cmpR op_ge (pe_d c_greatest_of hr (by decide) rfl (pa_cons (pv 0) (pa_cons (pv 4) pa_nil))) (pv 1) (nomark _))
 (pss_one (ps_set (i := 3) sc_fewest_of.nd rfl (Or.inl rfl) (pv 4)))
 (pss_one (ps_set (i := 2) sc_fewest_of.nd rfl (Or.inl rfl) (pe_op op_add (pv 4) pe_int)))))))
 (pss_one (ps_ret (pv 2))))), ?_⟩
    refine w_start (σ := [some (.ref a), some (.int z), none, none, none]) rfl ?_
    repeat walk_at "st"
    with_reducible refine w_seq ?_
    refine ⟨fun m σ' H' => ∃ (lo hi : Int) (o : Option V), σ' = [some (.ref a), some (.int z), some (.int lo), some (.int hi), o] ∧ m = (hi - lo).toNat ∧ H' = H ∧ 0 ≤ lo ∧ lo ≤ hi ∧ hi ≤ z ∧ z ≤ greatO S.lk S.ln hi ∧ ∀ c, 0 ≤ c → c < lo → greatO S.lk S.ln c < z,
      ⟨_, 0, z, none, rfl, rfl, rfl, by omega, z0, Int.le_refl _, great_ge ok z0, fun c h1 h2 => by omega⟩, ?_⟩
    rintro m σ' H' ⟨lo, hi, o, rfl, rfl, rfl, l0, lh, hz, hg, hlow⟩
    repeat walk_at "st"
    refine w_ite (fun h1 => ?_) (fun h1 => ?_)
    · refine ⟨_, fun σ' H' h => h, ?_⟩
      repeat walk_at "st"
      have e : (lo + hi) / 2 < hi ∧ lo ≤ (lo + hi) / 2 := by omega
      refine ⟨a, S, (lo + hi) / 2, rfl, hS, ok, by omega, by omega, ?_⟩
      repeat walk_at "st"
      refine w_ite (fun h2 => ?_) (fun h2 => ?_)
      · repeat walk_at "st"
        exact ⟨_, by omega, lo, (lo + hi) / 2, _, rfl, rfl, rfl, l0, by omega, by omega, h2, hlow⟩
      · repeat walk_at "st"
        refine ⟨_, by omega, (lo + hi) / 2 + 1, hi, _, rfl, rfl, rfl, by omega, by omega, hz, hg, fun c c0 c1 => ?_⟩
        have := great_mono (k := S.lk) (b := (lo + hi) / 2) ok c0 (by omega)
        omega
    · repeat walk_at "st"
      have e : lo = hi := by omega
      subst e
      exact k lo ⟨l0, hg, hlow⟩ hz
end

end Pt_lev
section Pt_few
/-! ### Fewest -/
abbrev cFew (K : PySem.W.Frag) : Addr := He.ga K "Fewest"
def FewAt (K : PySem.W.Frag) (H : Hp) (x : Addr) (S : Sg) : Prop := ∃ dx a, H x = some (.ins (cFew K) dx [("setting", .ref a)]) ∧ SetAt K H a S
theorem FewAt.same {K : PySem.W.Frag} {H H' : Hp} {x : Addr} {S : Sg} (e : Same H H') (h : FewAt K H x S) : FewAt K H' x S := let ⟨dx, a, h, h2⟩ := h; ⟨dx, a, e _ _ h, h2.same e⟩
def BigI (z : Int) : Prop := 0 ≤ z ∧ z ≤ 1000000000000000000000000000000
def spFewInit (K : PySem.W.Frag) : Sp := fun vs H Q _ => ∃ x dx a S, vs = [.ref x, .ref a] ∧ H x = some (.ins (cFew K) dx []) ∧ SetAt K H a S ∧ Q .non (upd H x (.ins (cFew K) dx [("setting", .ref a)]))
def spToldF (K : PySem.W.Frag) : Sp := fun vs H Q _ => ∃ a S z, vs = [.ref a, .int z] ∧ SetAt K H a S ∧ limOk S.lk S.ln ∧ BigI z ∧ ∀ r, Least S.lk S.ln z r → r ≤ z → Q (.int r) H
def spFewCall (K : PySem.W.Frag) : Sp := fun vs H Q _ => ∃ x S z, vs = [.ref x, .int z] ∧ FewAt K H x S ∧ limOk S.lk S.ln ∧ BigI z ∧ ∀ r, Least S.lk S.ln z r → Q (.int r) H
def spFewItem (K : PySem.W.Frag) : Sp := fun vs H Q _ => ∃ x S c, vs = [.ref x, .int c] ∧ FewAt K H x S ∧ limOk S.lk S.ln ∧ BigI c ∧ Q (.int (greatO S.lk S.ln c)) H
def spFewMod (K : PySem.W.Frag) : Sp := fun vs H Q _ => ∃ x S z, vs = [.ref x, .int z] ∧ FewAt K H x S ∧ limOk S.lk S.ln ∧ BigI z ∧ ∀ r, Least S.lk S.ln z r → Q (.int (greatO S.lk S.ln r - z)) H
def spFewIn (K : PySem.W.Frag) : Sp := fun vs H Q _ => ∃ x S z, vs = [.ref x, .int z] ∧ FewAt K H x S ∧ limOk S.lk S.ln ∧ BigI z ∧ ∀ r, Least S.lk S.ln z r → Q (.bl (decide (greatO S.lk S.ln r = z))) H
def spFewest (K : PySem.W.Frag) : Sp := fun vs H Q _ => ∃ a S z, vs = [.ref a, .int z] ∧ SetAt K H a S ∧ limOk S.lk S.ln ∧ BigI z ∧ ∀ r H', Same H H' → Least S.lk S.ln z r → Q (.int r) H'
def spGreatL (K : PySem.W.Frag) : Sp := fun vs H Q _ => ∃ a S c, vs = [.ref a, .int c] ∧ SetAt K H a S ∧ limOk S.lk S.ln ∧ BigI c ∧ ∀ H', Same H H' → Q (.int (greatO S.lk S.ln c)) H'
theorem intEq (a b : Int) : decide (V.int a = V.int b) = decide (a = b) := by simp
theorem same_three {H : Hp} {x dx : Addr} {o u v : HO} (h1 : H x = none) (h2 : H dx = none) : Same H (upd (upd (upd H dx o) x u) x v) := fun b w hb => by
  rw [upd_ne (ne_of_none hb h1)]
  exact same_two h1 h2 b w hb
set_option hygiene false in
local macro_rules | `(tactic| walk_at "st") => `(tactic| first
  | ((with_reducible refine' w_aug ?h ?_); (case h => exact rfl))
  | (with_reducible first | refine w_bm ?_ | refine w_fldAug ?_ | refine w_seqU ?_ | refine w_enumL ?_)
  | ((with_reducible refine' w_tyL ?h ?_); (case h => walk_at "hp"))
  | ((with_reducible refine' w_enumLAt ?h ?_); (case h => walk_at "hp")))

set_option hygiene false in
local macro_rules | `(tactic| walk_at "na") => `(tactic| exact T.na_few_setting)
set_option hygiene false in
local macro_rules | `(tactic| walk_at "cl") => `(tactic| exact T.cl_few)
set_option hygiene false in
local macro_rules | `(tactic| walk_at "st") => `(tactic| (with_reducible first | refine w_inst ?_ | refine w_instAt ?_))
section
variable {P : Program} {w : World} {K : PySem.W.Frag} {mg : Str → Option Value} {base : Heap}
theorem d_told_fewest (T : Txt K mg) (F : FD K mg "told_fewest" s_told_fewest) (c_need_size : Dn P w K mg base 4 "need_size" s_need_size ["value"] (spNeedSize)) (c_fewest_of : Dn P w K mg base 6 "fewest_of" s_fewest_of ["setting", "size"] (spFewOf K)) : Dn P w K mg base 7 "told_fewest" s_told_fewest ["setting", "n"] (spToldF K) := by
  refine dn_of F (fun _ _ _ _ _ _ us hl => match us, hl with | [_, _], _ => rfl) sc_told_fewest (fun vs H Q E h => ?_) (fun fa cdv A outer s H vs Q E hr h => ?_)
  · obtain ⟨a, S, z, rfl, _⟩ := h
    rfl
  · obtain ⟨a, S, z, rfl, hS, ok, hz, k⟩ := h
    refine ⟨_, PSs.nox (pss_cons (ps_expr (pe_d c_need_size hr (by decide) rfl (pa_cons (pv 1) pa_nil)))
 (pss_one (ps_ret (pe_d c_fewest_of hr (by decide) rfl (pa_cons (pv 0) (pa_cons (pv 1) pa_nil)))))), ?_⟩
    refine w_start (σ := [some (.ref a), some (.int z)]) rfl ?_
    repeat walk_at "st"
    refine ⟨z, rfl, hz.1, hz.2, ?_⟩
    repeat walk_at "st"
    refine ⟨a, S, z, rfl, hS, ok, hz.1, hz.2, fun r hr h1 => ?_⟩
    exact k r hr h1
theorem d_Fewest___init__ (T : Txt K mg) {f : Addr} (F : FA K "__init__" "Fewest.__init__" s_Fewest___init__ [] f) (c_need_setting : Dn P w K mg base 1 "need_setting" s_need_setting ["value", "part"] (spNeedSet K)) : Fr P w K mg base 2 (f) ["self", "setting"] [] (spFewInit K) := by
  refine fr_of0 F (fun _ _ _ _ _ _ us hl => match us, hl with | [_, _], _ => rfl) sc_Fewest___init__ (fun vs H Q E h => ?_) (fun fa cdv A outer s H vs Q E hr h => ?_)
  · obtain ⟨x, dx, a, S, rfl, _⟩ := h
    rfl
  · obtain ⟨x, dx, a, S, rfl, hx, hS, k⟩ := h
    refine ⟨_, PSs.nox (pss_cons (ps_expr (pe_d c_need_setting hr (by decide) rfl (pa_cons (pv 1) (pa_cons pe_str pa_nil))))
 (pss_one (ps_fld (pv 0) (pv 1) rfl))), ?_⟩
    refine w_start (σ := [some (.ref x), some (.ref a)]) rfl ?_
    repeat walk_at "st"
    refine ⟨a, S, _, rfl, hS, ?_⟩
    repeat walk_at "st"
    exact k
theorem d_Fewest___call__ (T : Txt K mg) {f : Addr} (F : FA K "__call__" "Fewest.__call__" s_Fewest___call__ [] f) (c_told_fewest : Dn P w K mg base 7 "told_fewest" s_told_fewest ["setting", "n"] (spToldF K)) : Fr P w K mg base 8 (f) ["self", "n"] [] (spFewCall K) := by
  refine fr_of0 F (fun _ _ _ _ _ _ us hl => match us, hl with | [_, _], _ => rfl) sc_Fewest___call__ (fun vs H Q E h => ?_) (fun fa cdv A outer s H vs Q E hr h => ?_)
  · obtain ⟨x, S, z, rfl, _⟩ := h
    rfl
  · obtain ⟨x, S, z, rfl, ⟨dx, a, hx, hS⟩, ok, hz, k⟩ := h
    refine ⟨_, PSs.nox (pss_one (ps_ret (pe_d c_told_fewest hr (by decide) rfl (pa_cons (pe_fld (pv 0) rfl) (pa_cons (pv 1) pa_nil))))), ?_⟩
    refine w_start (σ := [some (.ref x), some (.int z)]) rfl ?_
    repeat walk_at "st"
    refine ⟨a, S, z, rfl, hS, ok, hz, fun r hr h1 => ?_⟩
    exact k r hr
theorem d_Fewest___rfloordiv__ (T : Txt K mg) {f : Addr} (F : FA K "__rfloordiv__" "Fewest.__rfloordiv__" s_Fewest___rfloordiv__ [] f) (c_told_fewest : Dn P w K mg base 7 "told_fewest" s_told_fewest ["setting", "n"] (spToldF K)) : Fr P w K mg base 8 (f) ["self", "number"] [] (spFewCall K) := by
  refine fr_of0 F (fun _ _ _ _ _ _ us hl => match us, hl with | [_, _], _ => rfl) sc_Fewest___rfloordiv__ (fun vs H Q E h => ?_) (fun fa cdv A outer s H vs Q E hr h => ?_)
  · obtain ⟨x, S, z, rfl, _⟩ := h
    rfl
  · obtain ⟨x, S, z, rfl, ⟨dx, a, hx, hS⟩, ok, hz, k⟩ := h
    refine ⟨_, PSs.nox (pss_one (ps_ret (pe_d c_told_fewest hr (by decide) rfl (pa_cons (pe_fld (pv 0) rfl) (pa_cons (pv 1) pa_nil))))), ?_⟩
    refine w_start (σ := [some (.ref x), some (.int z)]) rfl ?_
    repeat walk_at "st"
    refine ⟨a, S, z, rfl, hS, ok, hz, fun r hr h1 => ?_⟩
    exact k r hr
theorem d_Fewest___getitem__ (T : Txt K mg) {f : Addr} (F : FA K "__getitem__" "Fewest.__getitem__" s_Fewest___getitem__ [] f) (c_need_size : Dn P w K mg base 4 "need_size" s_need_size ["value"] (spNeedSize)) (c_greatest_of : Dn P w K mg base 5 "greatest_of" s_greatest_of ["setting", "codes"] (spGreat K)) : Fr P w K mg base 6 (f) ["self", "c"] [] (spFewItem K) := by
  refine fr_of0 F (fun _ _ _ _ _ _ us hl => match us, hl with | [_, _], _ => rfl) sc_Fewest___getitem__ (fun vs H Q E h => ?_) (fun fa cdv A outer s H vs Q E hr h => ?_)
  · obtain ⟨x, S, c, rfl, _⟩ := h
    rfl
  · obtain ⟨x, S, c, rfl, ⟨dx, a, hx, hS⟩, ok, hc, k⟩ := h
    refine ⟨_, PSs.nox (pss_cons (ps_expr (pe_d c_need_size hr (by decide) rfl (pa_cons (pv 1) pa_nil)))
 (pss_one (ps_ret (pe_d c_greatest_of hr (by decide) rfl (pa_cons (pe_fld (pv 0) rfl) (pa_cons (pv 1) pa_nil)))))), ?_⟩
    refine w_start (σ := [some (.ref x), some (.int c)]) rfl ?_
    repeat walk_at "st"
    refine ⟨c, rfl, hc.1, hc.2, ?_⟩
    repeat walk_at "st"
    refine ⟨a, S, c, rfl, hS, ok, hc.1, hc.2, ?_⟩
    exact k
theorem d_Fewest___rmod__ (T : Txt K mg) {f : Addr} (F : FA K "__rmod__" "Fewest.__rmod__" s_Fewest___rmod__ [] f) (c_greatest_of : Dn P w K mg base 5 "greatest_of" s_greatest_of ["setting", "codes"] (spGreat K)) (c_told_fewest : Dn P w K mg base 7 "told_fewest" s_told_fewest ["setting", "n"] (spToldF K)) : Fr P w K mg base 8 (f) ["self", "number"] [] (spFewMod K) := by
  refine fr_of0 F (fun _ _ _ _ _ _ us hl => match us, hl with | [_, _], _ => rfl) sc_Fewest___rmod__ (fun vs H Q E h => ?_) (fun fa cdv A outer s H vs Q E hr h => ?_)
  · obtain ⟨x, S, z, rfl, _⟩ := h
    rfl
  · obtain ⟨x, S, z, rfl, ⟨dx, a, hx, hS⟩, ok, hz, k⟩ := h
    refine ⟨_, PSs.nox (pss_one (ps_ret (pe_op op_sub (pe_d c_greatest_of hr (by decide) rfl (pa_cons (pe_fld (pv 0) rfl) (pa_cons (pe_d c_told_fewest hr (by decide) rfl (pa_cons (pe_fld (pv 0) rfl) (pa_cons (pv 1) pa_nil))) pa_nil))) (pv 1)))), ?_⟩
    refine w_start (σ := [some (.ref x), some (.int z)]) rfl ?_
    repeat walk_at "st"
    refine ⟨a, S, z, rfl, hS, ok, hz, fun r hr h1 => ?_⟩
    repeat walk_at "st"
    refine ⟨a, S, r, rfl, hS, ok, hr.1, Int.le_trans h1 hz.2, ?_⟩
    repeat walk_at "st"
    exact k r hr
theorem d_Fewest___contains__ (T : Txt K mg) {f : Addr} (F : FA K "__contains__" "Fewest.__contains__" s_Fewest___contains__ [] f) (c_is_between : Dn P w K mg base 2 "is_between" s_is_between ["value", "least", "most"] (spBetween)) (c_greatest_of : Dn P w K mg base 5 "greatest_of" s_greatest_of ["setting", "codes"] (spGreat K)) (c_told_fewest : Dn P w K mg base 7 "told_fewest" s_told_fewest ["setting", "n"] (spToldF K)) : Fr P w K mg base 8 (f) ["self", "value"] [] (spFewIn K) := by
  refine fr_of0 F (fun _ _ _ _ _ _ us hl => match us, hl with | [_, _], _ => rfl) sc_Fewest___contains__ (fun vs H Q E h => ?_) (fun fa cdv A outer s H vs Q E hr h => ?_)
  · obtain ⟨x, S, z, rfl, _⟩ := h
    rfl
  · obtain ⟨x, S, z, rfl, ⟨dx, a, hx, hS⟩, ok, hz, k⟩ := h
    refine ⟨_, PSs.nox (pss_one (ps_ret (pe_and (pe_d c_is_between hr (by decide) rfl (pa_cons (pv 1) (pa_cons pe_int (pa_cons (pe_gv rfl T.g_MOST_SIZE) pa_nil)))) (pe_one (pe_cmpR op_eq (pe_d c_greatest_of hr (by decide) rfl (pa_cons (pe_fld (pv 0) rfl) (pa_cons (pe_d c_told_fewest hr (by decide) rfl (pa_cons (pe_fld (pv 0) rfl) (pa_cons (pv 1) pa_nil))) pa_nil))) (pv 1) (nomark _)))))), ?_⟩
    refine w_start (σ := [some (.ref x), some (.int z)]) rfl ?_
    repeat walk_at "st"
    refine ⟨.int z, "int", 0, _, rfl, .int z, ?_⟩
    have e : betV 0 1000000000000000000000000000000 (.int z) = true := by
      show (decide (0 ≤ z) && decide (z ≤ 1000000000000000000000000000000)) = true
      rw [decide_eq_true hz.1, decide_eq_true hz.2]
      rfl
    repeat walk_at "st"
    refine w_iteT e ?_
    repeat walk_at "st"
    refine ⟨a, S, z, rfl, hS, ok, hz, fun r hr h1 => ?_⟩
    repeat walk_at "st"
    refine ⟨a, S, r, rfl, hS, ok, hr.1, Int.le_trans h1 hz.2, ?_⟩
    repeat walk_at "st"
    rw [intEq]
    exact k r hr
theorem d_fewest (T : Txt K mg) (F : FD K mg "fewest" s_fewest) (c_Fewest___init__ : Fr P w K mg base 2 (He.ma K (He.ga K "Fewest") "__init__") ["self", "setting"] [] (spFewInit K)) (c_Fewest___call__ : Fr P w K mg base 8 (He.ma K (He.ga K "Fewest") "__call__") ["self", "n"] [] (spFewCall K)) : Dn P w K mg base 10 "fewest" s_fewest ["setting", "n"] (spFewest K) := by
  refine dn_of F (fun _ _ _ _ _ _ us hl => match us, hl with | [_, _], _ => rfl) sc_fewest (fun vs H Q E h => ?_) (fun fa cdv A outer s H vs Q E hr h => ?_)
  · obtain ⟨a, S, z, rfl, _⟩ := h
    rfl
  · obtain ⟨a, S, z, rfl, hS, ok, hz, k⟩ := h
    refine ⟨_, PSs.nox (pss_one (ps_ret (pe_ci c_Fewest___call__ T.ca_few hr (by decide) (pe_mk c_Fewest___init__ T.mk_few T.gc_few hr (by decide) rfl (pa_cons (pv 0) pa_nil)) (pa_cons (pv 1) pa_nil)))), ?_⟩
    refine w_start (σ := [some (.ref a), some (.int z)]) rfl ?_
    repeat walk_at "st"
    refine fun x dx hx hdx ne => ⟨x, dx, a, S, rfl, upd_same, hS.same (same_two hx hdx), rfl, ?_⟩
    repeat walk_at "st"
    refine ⟨⟨dx, _, upd_same⟩, x, S, z, rfl, ⟨dx, a, upd_same, hS.same (same_three hx hdx)⟩, ok, hz, fun r hr => ?_⟩
    exact k r _ (same_three hx hdx) hr
theorem d_greatest_letters (T : Txt K mg) (F : FD K mg "greatest_letters" s_greatest_letters) (c_Fewest___init__ : Fr P w K mg base 2 (He.ma K (He.ga K "Fewest") "__init__") ["self", "setting"] [] (spFewInit K)) (c_Fewest___getitem__ : Fr P w K mg base 6 (He.ma K (He.ga K "Fewest") "__getitem__") ["self", "c"] [] (spFewItem K)) : Dn P w K mg base 8 "greatest_letters" s_greatest_letters ["setting", "c"] (spGreatL K) := by
  refine dn_of F (fun _ _ _ _ _ _ us hl => match us, hl with | [_, _], _ => rfl) sc_greatest_letters (fun vs H Q E h => ?_) (fun fa cdv A outer s H vs Q E hr h => ?_)
  · obtain ⟨a, S, c, rfl, _⟩ := h
    rfl
  · obtain ⟨a, S, c, rfl, hS, ok, hc, k⟩ := h
    refine ⟨_, PSs.nox (pss_one (ps_ret (pe_ixO c_Fewest___getitem__ T.sp_few_item T.fi_few_item hr (by decide) (pe_mk c_Fewest___init__ T.mk_few T.gc_few hr (by decide) rfl (pa_cons (pv 0) pa_nil)) (pv 1)))), ?_⟩
    refine w_start (σ := [some (.ref a), some (.int c)]) rfl ?_
    repeat walk_at "st"
    refine fun x dx hx hdx ne => ⟨x, dx, a, S, rfl, upd_same, hS.same (same_two hx hdx), rfl, ?_⟩
    repeat walk_at "st"
    refine ⟨x, dx, _, rfl, upd_same, x, S, c, rfl, ⟨dx, a, upd_same, hS.same (same_three hx hdx)⟩, ok, hc, ?_⟩
    exact k _ (same_three hx hdx)
end

end Pt_few
section Pt_level
/-! ### most codes, plainly: levels with so much room -/
/-- so many of l codes stand at the levels from d on, c d the room of a level -/
def fillC (c : Nat → Int) : Nat → Nat → Int → List Int
  | 0, _, _ => []
  | f + 1, d, l => if l ≤ 0 then [] else min (c d) l :: fillC c f (d + 1) (l - min (c d) l)
def fill (c : Nat → Int) (d : Nat) (l : Int) : List Int := fillC c l.toNat d l
def letO : Nat → List Int → Int
  | _, [] => 0
  | d, x :: xs => d * x + letO (d + 1) xs
def sizO : Nat → List Int → List Int
  | _, [] => []
  | d, x :: xs => List.replicate x.toNat (d : Int) ++ sizO (d + 1) xs
def sumF (c : Nat → Int) (d : Nat) (l : Int) : Int := letO d (fill c d l)
theorem fillC_fuel {c : Nat → Int} (hc : ∀ d, 1 ≤ c d) : ∀ (f : Nat) (d : Nat) (l : Int), l.toNat ≤ f → fillC c f d l = fill c d l := by
  have key : ∀ (f g : Nat) (d : Nat) (l : Int), l.toNat ≤ f → l.toNat ≤ g → fillC c f d l = fillC c g d l := by
    intro f
    induction f with
    | zero =>
      intro g d l h _
      cases g with
      | zero => rfl
      | succ g => rw [fillC, fillC, if_pos (by omega)]
    | succ f ih =>
      intro g d l h1 h2
      cases g with
      | zero => rw [fillC, fillC, if_pos (by omega)]
      | succ g =>
        rw [fillC, fillC]
        by_cases hl : l ≤ 0
        · rw [if_pos hl, if_pos hl]
        · have := hc d
          rw [if_neg hl, if_neg hl, ih g (d + 1) (l - min (c d) l) (by omega) (by omega)]
  intro f d l h
  exact key f l.toNat d l h (Nat.le_refl _)
theorem fill_nil {c : Nat → Int} {d : Nat} {l : Int} (h : l ≤ 0) : fill c d l = [] := by
  unfold fill
  rw [show l.toNat = 0 by omega]
  rfl
theorem fill_cons {c : Nat → Int} (hc : ∀ d, 1 ≤ c d) {d : Nat} {l : Int} (h : 0 < l) : fill c d l = min (c d) l :: fill c (d + 1) (l - min (c d) l) := by
  obtain ⟨f, hf⟩ : ∃ f, l.toNat = f + 1 := ⟨l.toNat - 1, by omega⟩
  have := hc d
  unfold fill
  rw [hf, fillC, if_neg (by omega), fillC_fuel hc f (d + 1) _ (by omega)]
  rfl
theorem sumF_nil {c : Nat → Int} {d : Nat} {l : Int} (h : l ≤ 0) : sumF c d l = 0 := by
  unfold sumF
  rw [fill_nil h]
  rfl
theorem sumF_in {c : Nat → Int} (hc : ∀ d, 1 ≤ c d) {d : Nat} {l : Int} (h : 0 ≤ l) (h2 : l ≤ c d) : sumF c d l = d * l := by
  by_cases h0 : l = 0
  · subst h0
    rw [sumF_nil (Int.le_refl _), Int.mul_zero]
  · unfold sumF
    rw [fill_cons hc (by omega), show min (c d) l = l by omega, fill_nil (by omega)]
    show d * l + 0 = _
    omega
theorem sumF_out {c : Nat → Int} (hc : ∀ d, 1 ≤ c d) {d : Nat} {l : Int} (h2 : c d ≤ l) : sumF c d l = d * c d + sumF c (d + 1) (l - c d) := by
  have := hc d
  unfold sumF
  rw [fill_cons hc (by omega), show min (c d) l = c d by omega]
  rfl
theorem sumF_step {c : Nat → Int} (hc : ∀ d, 1 ≤ c d) : ∀ (n : Nat) (d : Nat) (l : Int), l.toNat ≤ n → 0 ≤ l → sumF c d l + d ≤ sumF c d (l + 1)
  | n, d, l, hn, h => by
    by_cases h1 : l < c d
    · rw [sumF_in hc h (by omega), sumF_in hc (by omega) (by omega), Int.mul_add]
      omega
    · have := hc d
      rw [sumF_out hc (d := d) (l := l) (by omega), sumF_out hc (d := d) (l := l + 1) (by omega)]
      cases n with
      | zero => omega
      | succ n =>
        have i := sumF_step hc n (d + 1) (l - c d) (by omega) (by omega)
        rw [show l - c d + 1 = l + 1 - c d by omega] at i
        omega
theorem sumF_grow {c : Nat → Int} (hc : ∀ d, 1 ≤ c d) (d : Nat) (l : Int) (h : 0 ≤ l) : ∀ k : Nat, sumF c d l + d * k ≤ sumF c d (l + k)
  | 0 => by simp
  | k + 1 => by
    have i := sumF_grow hc d l h k
    have s := sumF_step hc (l + k).toNat d (l + k) (Nat.le_refl _) (by omega)
    rw [show l + ((k + 1 : Nat) : Int) = l + k + 1 by omega, show (d : Int) * ((k + 1 : Nat) : Int) = d * k + d by rw [show ((k + 1 : Nat) : Int) = (k : Int) + 1 from rfl, Int.mul_add]; omega]
    omega
theorem sumF_less {c c' : Nat → Int} (hc : ∀ d, 1 ≤ c d) (hc' : ∀ d, 1 ≤ c' d) (hle : ∀ d, c' d ≤ c d) : ∀ (n : Nat) (d : Nat) (l : Int), l.toNat ≤ n → 0 ≤ l → sumF c d l ≤ sumF c' d l
  | n, d, l, hn, h => by
    have := hc' d
    have := hle d
    by_cases h1 : l ≤ c' d
    · rw [sumF_in hc h (by omega), sumF_in hc' h h1]
      exact Int.le_refl _
    · cases n with
      | zero => omega
      | succ n =>
        rw [sumF_out hc' (by omega)]
        by_cases h2 : l ≤ c d
        · have g := sumF_less hc hc' hle n (d + 1) (l - c' d) (by omega) (by omega)
          have z := sumF_grow hc (d + 1) 0 (Int.le_refl _) (l - c' d).toNat
          rw [sumF_nil (Int.le_refl _), show (0 : Int) + ((l - c' d).toNat : Int) = l - c' d by omega, show ((l - c' d).toNat : Int) = l - c' d by omega, Int.zero_add] at z
          rw [sumF_in hc h h2]
          have e : ((d + 1 : Nat) : Int) * (l - c' d) = d * (l - c' d) + (l - c' d) := by rw [show ((d + 1 : Nat) : Int) = (d : Int) + 1 from rfl, Int.add_mul, Int.one_mul]
          have e2 : (d : Int) * (l - c' d) = d * l - d * c' d := Int.mul_sub ..
          omega
        · rw [sumF_out hc (by omega)]
          have g := sumF_less hc hc' hle n (d + 1) (l - c' d) (by omega) (by omega)
          have z := sumF_grow hc (d + 1) (l - c d) (by omega) (c d - c' d).toNat
          rw [show ((c d - c' d).toNat : Int) = c d - c' d by omega, show l - c d + (c d - c' d) = l - c' d by omega] at z
          have e : ((d + 1 : Nat) : Int) * (c d - c' d) = d * (c d - c' d) + (c d - c' d) := by rw [show ((d + 1 : Nat) : Int) = (d : Int) + 1 from rfl, Int.add_mul, Int.one_mul]
          have e2 : (d : Int) * (c d - c' d) = d * c d - d * c' d := Int.mul_sub ..
          omega
theorem fill_pos {c : Nat → Int} (hc : ∀ d, 1 ≤ c d) : ∀ (n : Nat) (d : Nat) (l : Int), l.toNat ≤ n → ∀ x ∈ fill c d l, 1 ≤ x
  | n, d, l, hn => by
    by_cases h : l ≤ 0
    · rw [fill_nil h]
      intro x hx
      cases hx
    · cases n with
      | zero => omega
      | succ n =>
        have := hc d
        rw [fill_cons hc (by omega)]
        intro x hx
        rcases List.mem_cons.mp hx with rfl | hx
        · omega
        · exact fill_pos hc n (d + 1) _ (by omega) x hx
theorem fill_sum {c : Nat → Int} (hc : ∀ d, 1 ≤ c d) : ∀ (n : Nat) (d : Nat) (l : Int), l.toNat ≤ n → 0 ≤ l → (fill c d l).sum = l
  | n, d, l, hn, h0 => by
    by_cases h : l ≤ 0
    · rw [fill_nil h]
      show 0 = l
      omega
    · cases n with
      | zero => omega
      | succ n =>
        have := hc d
        rw [fill_cons hc (by omega), List.sum_cons, fill_sum hc n (d + 1) _ (by omega) (by omega)]
        omega
theorem fill_len {c : Nat → Int} (hc : ∀ d, 1 ≤ c d) : ∀ (n : Nat) (d : Nat) (l : Int), l.toNat ≤ n → ((fill c d l).length : Int) ≤ max l 0
  | n, d, l, hn => by
    by_cases h : l ≤ 0
    · rw [fill_nil h]
      show (0 : Int) ≤ _
      omega
    · cases n with
      | zero => omega
      | succ n =>
        have := hc d
        have i := fill_len hc n (d + 1) (l - min (c d) l) (by omega)
        rw [fill_cons hc (by omega), List.length_cons]
        omega
theorem siz_len : ∀ (d : Nat) (L : List Int), (∀ x ∈ L, 0 ≤ x) → ((sizO d L).length : Int) = L.sum
  | _, [], _ => rfl
  | d, x :: L, h => by
    have h0 := h x List.mem_cons_self
    have i := siz_len (d + 1) L fun y hy => h y (List.mem_cons_of_mem _ hy)
    rw [sizO, List.length_append, List.length_replicate, List.sum_cons]
    omega
theorem rep_sum (n : Nat) (z : Int) : (List.replicate n z).sum = n * z := by
  induction n with
  | zero => simp
  | succ n ih =>
    rw [List.replicate_succ, List.sum_cons, ih, show ((n + 1 : Nat) : Int) = (n : Int) + 1 from rfl, Int.add_mul]
    omega
theorem siz_sum : ∀ (d : Nat) (L : List Int), (∀ x ∈ L, 0 ≤ x) → (sizO d L).sum = letO d L
  | _, [], _ => rfl
  | d, x :: L, h => by
    have h0 := h x List.mem_cons_self
    rw [sizO, letO, List.sum_append, siz_sum (d + 1) L fun y hy => h y (List.mem_cons_of_mem _ hy), rep_sum, Int.toNat_of_nonneg h0, Int.mul_comm]
/-- the lengths of the first l codes -/
def sizF (c : Nat → Int) (d : Nat) (l : Int) : List Int := sizO d (fill c d l)
theorem sizF_sum {c : Nat → Int} (hc : ∀ d, 1 ≤ c d) (d : Nat) (l : Int) : (sizF c d l).sum = sumF c d l :=
  siz_sum d _ fun x hx => by have := fill_pos hc _ d l (Nat.le_refl _) x hx; omega
theorem sizF_len {c : Nat → Int} (hc : ∀ d, 1 ≤ c d) (d : Nat) {l : Int} (h : 0 ≤ l) : ((sizF c d l).length : Int) = l := by
  unfold sizF
  rw [siz_len d _ fun x hx => by have := fill_pos hc _ d l (Nat.le_refl _) x hx; omega, fill_sum hc _ d l (Nat.le_refl _) h]
theorem sizF_cons {c : Nat → Int} (hc : ∀ d, 1 ≤ c d) {d : Nat} {l : Int} (h : 0 < l) : sizF c d l = List.replicate (min (c d) l).toNat (d : Int) ++ sizF c (d + 1) (l - min (c d) l) := by
  unfold sizF
  rw [fill_cons hc h]
  rfl
theorem sizF_nil {c : Nat → Int} {d : Nat} {l : Int} (h : l ≤ 0) : sizF c d l = [] := by
  unfold sizF
  rw [fill_nil h]
  rfl
theorem sizF_take {c : Nat → Int} (hc : ∀ d, 1 ≤ c d) : ∀ (n : Nat) (d : Nat) (l r : Int), l.toNat ≤ n → 0 ≤ r → r ≤ l → (sizF c d l).take r.toNat = sizF c d r
  | n, d, l, r, hn, h0, h1 => by
    by_cases hr : r = 0
    · subst hr
      rw [sizF_nil (Int.le_refl _)]
      rfl
    · cases n with
      | zero => omega
      | succ n =>
        have := hc d
        rw [sizF_cons hc (by omega), sizF_cons hc (l := r) (by omega)]
        by_cases h2 : r ≤ c d
        · rw [List.take_append_of_le_length (by rw [List.length_replicate]; omega), List.take_replicate, show min r.toNat (min (c d) l).toNat = (min (c d) r).toNat by omega, sizF_nil (l := r - min (c d) r) (by omega), List.append_nil]
        · rw [show min (c d) l = c d by omega, show min (c d) r = c d by omega, List.take_append, List.length_replicate, List.take_replicate, show min r.toNat (c d).toNat = (c d).toNat by omega, show r.toNat - (c d).toNat = (r - c d).toNat by omega, sizF_take hc n (d + 1) (l - c d) (r - c d) (by omega) (by omega) (by omega)]
/-! ### the rooms of levels; the least letters of so many codes -/
def big40 : Int := 10000000000000000000000000000000000000000
def capG (a q : Int) (d : Nat) : Int := a * q ^ (d - 1)
def capS (a q : Int) (n : Int) (d : Nat) : Int := if (d : Int) = n then big40 else capG a q d
def capB (q : Int) (s d : Nat) : Int := q ^ d - (if s ≤ d then q ^ (d - s) else 0)
theorem pow_pos' {q : Int} (h : 1 ≤ q) (n : Nat) : 1 ≤ q ^ n := by
  have := Int.pow_pos (n := q) (m := n) (by omega)
  omega
theorem capG_pos {a q : Int} (ha : 1 ≤ a) (hq : 1 ≤ q) (d : Nat) : 1 ≤ capG a q d := by
  have := Int.mul_le_mul ha (pow_pos' hq (d - 1)) (by decide) (by omega)
  unfold capG
  omega
theorem capS_pos {a q n : Int} (ha : 1 ≤ a) (hq : 1 ≤ q) (d : Nat) : 1 ≤ capS a q n d := by
  unfold capS
  split
  · decide
  · exact capG_pos ha hq d
theorem capB_pos {q : Int} (hq : 2 ≤ q) {s : Nat} (hs : 1 ≤ s) (d : Nat) : 1 ≤ capB q s d := by
  unfold capB
  by_cases h : s ≤ d
  · rw [if_pos h]
    have e : q ^ d = q ^ (d - s) * q ^ s := by rw [← Int.pow_add]; congr 1; omega
    have p1 := pow_pos' (q := q) (by omega) (d - s)
    have p2 : 2 ≤ q ^ s := by
      obtain ⟨k, rfl⟩ : ∃ k, s = k + 1 := ⟨s - 1, by omega⟩
      rw [Int.pow_succ]
      have := pow_pos' (q := q) (by omega) k
      have := Int.mul_le_mul this hq (by decide) (by omega)
      omega
    have p3 := Int.mul_le_mul (Int.le_refl (q ^ (d - s))) p2 (by decide) (by omega)
    rw [e]
    omega
  · rw [if_neg h]
    have := pow_pos' (q := q) (by omega) d
    omega
theorem capB_le {q : Int} (hq : 2 ≤ q) (s d : Nat) : capB q s d ≤ capG q q d := by
  unfold capB capG
  have e : q ^ d ≤ q * q ^ (d - 1) := by
    cases d with
    | zero => rw [Int.pow_zero]; omega
    | succ d => rw [Int.pow_succ, Int.mul_comm]; exact Int.le_refl _
  split
  · have := pow_pos' (q := q) (by omega) (d - s)
    omega
  · omega
theorem capB_first {q : Int} {s : Nat} (hs : 1 ≤ s) {d : Nat} (hd : 1 ≤ d) (h : d < s) : capB q s d = capG q q d := by
  unfold capB capG
  rw [if_neg (by omega)]
  obtain ⟨k, rfl⟩ : ∃ k, d = k + 1 := ⟨d - 1, by omega⟩
  rw [Int.pow_succ, Int.mul_comm]
  show q * q ^ k - 0 = q * q ^ k
  omega
def addO : List Int → List Int → List Int
  | [], M => M
  | L, [] => L
  | x :: L, y :: M => (x + y) :: addO L M
theorem add_let : ∀ (d : Nat) (L M : List Int), letO d (addO L M) = letO d L + letO d M
  | d, [], M => by simp [addO, letO]
  | d, x :: L, [] => by simp [addO, letO]
  | d, x :: L, y :: M => by
    rw [addO, letO, letO, letO, add_let (d + 1) L M, Int.mul_add]
    omega
theorem mul_let (k : Int) : ∀ (d : Nat) (L : List Int), letO d (L.map fun x => x * k) = letO d L * k
  | _, [] => by simp [letO]
  | d, x :: L => by
    rw [List.map_cons, letO, letO, mul_let k (d + 1) L, Int.add_mul, Int.mul_assoc]
theorem zero_let : ∀ (n d : Nat) (x : Int), letO d (List.replicate n 0 ++ [x]) = (d + n : Nat) * x
  | 0, d, x => by show d * x + 0 = _; simp
  | n + 1, d, x => by
    rw [List.replicate_succ, List.cons_append, letO, zero_let n (d + 1) x, Int.mul_zero, Int.zero_add, show d + 1 + n = d + (n + 1) by omega]
/-- the first of 1, .., n at which f is least -/
def fminO (f : Nat → Int) : Nat → Nat
  | 0 => 1
  | k + 1 => if k = 0 then 1 else if f (k + 1) < f (fminO f k) then k + 1 else fminO f k
theorem fmin_spec (f : Nat → Int) : ∀ n, 1 ≤ n → 1 ≤ fminO f n ∧ fminO f n ≤ n ∧ (∀ s, 1 ≤ s → s ≤ n → f (fminO f n) ≤ f s) ∧ ∀ s, 1 ≤ s → s < fminO f n → f (fminO f n) < f s
  | 0, h => by omega
  | 1, _ => ⟨Nat.le_refl _, Nat.le_refl _, fun s h1 h2 => by rw [show s = 1 by omega]; exact Int.le_refl _, fun s h1 h2 => by have h2 : s < 1 := h2; omega⟩
  | k + 2, _ => by
    obtain ⟨a, b, c, d⟩ := fmin_spec f (k + 1) (by omega)
    rw [fminO, if_neg (by omega)]
    by_cases h : f (k + 1 + 1) < f (fminO f (k + 1))
    · rw [if_pos h]
      refine ⟨by omega, Nat.le_refl _, fun s h1 h2 => ?_, fun s h1 h2 => ?_⟩
      · by_cases e : s = k + 1 + 1
        · rw [e]; exact Int.le_refl _
        · have := c s h1 (by omega)
          omega
      · have := c s h1 (by omega)
        omega
    · rw [if_neg h]
      refine ⟨a, by omega, fun s h1 h2 => ?_, d⟩
      by_cases e : s = k + 1 + 1
      · rw [e]; omega
      · exact c s h1 (by omega)
section
variable (S : Sg)
def firstO : Int := if S.hid = true then (S.q : Int) * S.q else S.q
def freeC : Nat → Int := capG (firstO S) S.q
/-- a told standing book that never learns a word of s letters -/
def spC (s : Nat) (m : Int) : List Int := addO (fill (capB S.q s) 1 S.ln) (List.replicate (s - 1) 0 ++ [m - S.ln])
def costO (m : Int) (s : Nat) : Int := letO 1 (spC S s m)
def deepO : Nat := (fill (freeC S) 1 S.ln).length + 1
def spF (m : Int) : Nat := fminO (costO S m) (deepO S)
def cntO (m : Int) : List Int := match S.lk with
  | .short => fill (capS (firstO S) S.q S.ln) 1 m
  | .cleared => if S.ln ≤ m then addO ((fill (freeC S) 1 S.ln).map fun x => x * (m / S.ln)) (fill (freeC S) 1 (m % S.ln)) else fill (freeC S) 1 m
  | .standing => if m ≤ S.ln then fill (freeC S) 1 m else if S.hid = true then [m] else spC S (spF S m) m
  | .free => fill (freeC S) 1 m
def lenO (m : Int) : Int := letO 1 (cntO S m)
def leastO (c : Int) : Int := if c = 0 then 0 else lenO S (c - 1) + 1
def looseB : Bool := S.hid && (kEq S.lk .standing && decide (firstO S ≤ S.ln))
end
structure SgOk (S : Sg) : Prop where
  lim : limOk S.lk S.ln
  q1 : 2 ≤ S.q
  q2 : S.q ≤ 26
section
variable {S : Sg}
theorem first_pos (ok : SgOk S) : 2 ≤ firstO S := by
  have := ok.q1
  unfold firstO
  split
  · have := Int.mul_le_mul (a := 2) (c := (S.q : Int)) (b := 2) (d := (S.q : Int)) (by omega) (by omega) (by decide) (by omega)
    omega
  · omega
theorem freeC_pos (ok : SgOk S) (d : Nat) : 1 ≤ freeC S d := capG_pos (by have := first_pos ok; omega) (by have := ok.q1; omega) d
theorem freeC_one : freeC S 1 = firstO S := by show firstO S * 1 = _; omega
theorem cost_eq (s : Nat) (hs : 1 ≤ s) (m : Int) : costO S m s = sumF (capB S.q s) 1 S.ln + s * (m - S.ln) := by
  unfold costO spC
  rw [add_let, zero_let, show 1 + (s - 1) = s by omega]
  rfl
theorem len_cleared (ok : SgOk S) (hk : S.lk = .cleared) {m : Int} (h : 0 ≤ m) : lenO S m = sumF (freeC S) 1 S.ln * (m / S.ln) + sumF (freeC S) 1 (m % S.ln) := by
  have hl := ok.lim
  rw [hk] at hl
  have h1 : 1 ≤ S.ln := hl.1
  unfold lenO cntO
  rw [hk]
  by_cases c : S.ln ≤ m
  · show letO 1 (if S.ln ≤ m then _ else _) = _
    rw [if_pos c, add_let, mul_let]
    rfl
  · show letO 1 (if S.ln ≤ m then _ else _) = _
    rw [if_neg c, Int.ediv_eq_zero_of_lt h (by omega), Int.emod_eq_of_lt h (by omega), Int.mul_zero, Int.zero_add]
    rfl
theorem len_step (ok : SgOk S) {m : Int} (h : 0 ≤ m) (hl : looseB S = true → m + 1 ≤ S.ln) : lenO S m + 1 ≤ lenO S (m + 1) := by
  have fp := freeC_pos ok
  have st := fun l (h : 0 ≤ l) => sumF_step fp l.toNat 1 l (Nat.le_refl _) h
  have lim := ok.lim
  have q1 := ok.q1
  have f1 := first_pos ok
  cases hk : S.lk with
  | free =>
    have := st m h
    unfold lenO cntO
    rw [hk]
    exact this
  | short =>
    have := sumF_step (c := capS (firstO S) S.q S.ln) (capS_pos (by omega) (by omega)) m.toNat 1 m (Nat.le_refl _) h
    unfold lenO cntO
    rw [hk]
    exact this
  | cleared =>
    rw [hk] at lim
    have h1 : 1 ≤ S.ln := lim.1
    rw [len_cleared ok hk h, len_cleared ok hk (by omega)]
    obtain ⟨n, en⟩ : ∃ x, x = S.ln := ⟨_, rfl⟩
    rw [← en] at h1 ⊢
    obtain ⟨a, ea⟩ : ∃ a, a = m / n := ⟨_, rfl⟩
    obtain ⟨r, er⟩ : ∃ r, r = m % n := ⟨_, rfl⟩
    have r0 : 0 ≤ r := by rw [er]; exact Int.emod_nonneg _ (by omega)
    have r1 : r < n := by rw [er]; exact Int.emod_lt_of_pos _ (by omega)
    have ec : r + n * a = m := by rw [er, ea]; exact Int.emod_add_mul_ediv m n
    rw [← ea, ← er]
    have s1 := st r r0
    by_cases c : r + 1 < n
    · obtain ⟨e1, e2⟩ := (Int.ediv_emod_unique (a := m + 1) (b := n) (q := a) (r := r + 1) (by omega)).mpr ⟨by omega, by omega, c⟩
      rw [e1, e2]
      omega
    · have e3 : r + 1 = n := by omega
      obtain ⟨e1, e2⟩ := (Int.ediv_emod_unique (a := m + 1) (b := n) (q := a + 1) (r := 0) (by omega)).mpr ⟨by rw [Int.mul_add]; omega, by omega, by omega⟩
      rw [e1, e2, Int.mul_add, sumF_nil (l := 0) (Int.le_refl _)]
      rw [e3] at s1
      omega
  | standing =>
    rw [hk] at lim
    have n0 : 0 ≤ S.ln := lim.1
    unfold lenO cntO
    rw [hk]
    show letO 1 (if m ≤ S.ln then _ else _) + 1 ≤ letO 1 (if m + 1 ≤ S.ln then _ else _)
    by_cases c1 : m + 1 ≤ S.ln
    · rw [if_pos c1, if_pos (by omega)]
      exact st m h
    · rw [if_neg c1]
      by_cases hh : S.hid = true
      · have nl : ¬ firstO S ≤ S.ln := fun z => c1 (hl (by unfold looseB; rw [hh, hk, decide_eq_true z]; rfl))
        simp only [if_pos hh]
        have e1 : letO 1 [m + 1] = m + 1 := by show ((1 : Nat) : Int) * (m + 1) + 0 = _; omega
        rw [e1]
        by_cases c2 : m ≤ S.ln
        · rw [if_pos c2]
          have := sumF_in fp (d := 1) (l := m) h (by rw [freeC_one]; omega)
          have : letO 1 (fill (freeC S) 1 m) = ((1 : Nat) : Int) * m := this
          omega
        · rw [if_neg c2]
          have e2 : letO 1 [m] = m := by show ((1 : Nat) : Int) * m + 0 = _; omega
          omega
      · have hf : S.hid = false := by cases e : S.hid with | true => exact absurd e hh | false => rfl
        have fq : firstO S = S.q := by unfold firstO; rw [hf]; rfl
        simp only [if_neg hh]
        obtain ⟨s1, s2, s3, s4⟩ := fmin_spec (costO S (m + 1)) (deepO S) (by unfold deepO; omega)
        have e1 : letO 1 (spC S (spF S (m + 1)) (m + 1)) = costO S (m + 1) (spF S (m + 1)) := rfl
        obtain ⟨s, es⟩ : ∃ s, s = spF S (m + 1) := ⟨_, rfl⟩
        have h1 : 1 ≤ s := by rw [es]; exact s1
        have h2 : s ≤ deepO S := by rw [es]; exact s2
        rw [e1, ← es]
        by_cases c2 : m ≤ S.ln
        · rw [if_pos c2, cost_eq s h1]
          have em : m = S.ln := by omega
          have le := sumF_less fp (capB_pos (q := S.q) (by omega) h1) (fun d => by
            have := capB_le (q := (S.q : Int)) (by omega) s d
            unfold freeC
            rw [fq]
            exact this) S.ln.toNat 1 S.ln (Nat.le_refl _) n0
          have e2 : letO 1 (fill (freeC S) 1 m) = sumF (freeC S) 1 S.ln := by rw [em]; rfl
          rw [e2, show m + 1 - S.ln = 1 by omega]
          omega
        · rw [if_neg c2]
          obtain ⟨t1, t2, t3, t4⟩ := fmin_spec (costO S m) (deepO S) (by unfold deepO; omega)
          have e2 : letO 1 (spC S (spF S m) m) = costO S m (spF S m) := rfl
          have le := t3 s h1 h2
          have e3 : costO S (m + 1) s = costO S m s + s := by
            rw [cost_eq s h1, cost_eq s h1, show m + 1 - S.ln = (m - S.ln) + 1 by omega, Int.mul_add]
            omega
          rw [e2, e3]
          have le : costO S m (spF S m) ≤ costO S m s := le
          omega
theorem cnt_zero (ok : SgOk S) : lenO S 0 = 0 := by
  have lim := ok.lim
  unfold lenO cntO
  cases hk : S.lk with
  | free => rw [fill_nil (Int.le_refl _)]; rfl
  | short => rw [fill_nil (Int.le_refl _)]; rfl
  | cleared =>
    rw [hk] at lim
    have h1 : 1 ≤ S.ln := lim.1
    show letO 1 (if S.ln ≤ 0 then _ else _) = 0
    rw [if_neg (by omega), fill_nil (Int.le_refl _)]
    rfl
  | standing =>
    rw [hk] at lim
    have n0 : 0 ≤ S.ln := lim.1
    show letO 1 (if 0 ≤ S.ln then _ else _) = 0
    rw [if_pos n0, fill_nil (Int.le_refl _)]
    rfl
theorem least_zero : leastO S 0 = 0 := if_pos rfl
theorem least_step (ok : SgOk S) {c : Int} (h : 0 ≤ c) (hl : looseB S = true → c ≤ S.ln) : leastO S c + 1 ≤ leastO S (c + 1) := by
  unfold leastO
  rw [if_neg (show ¬ c + 1 = 0 by omega)]
  by_cases e : c = 0
  · subst e
    rw [if_pos rfl, show (0 : Int) + 1 - 1 = 0 by omega, cnt_zero ok]
    decide
  · rw [if_neg e]
    have := len_step ok (m := c - 1) (by omega) fun z => by have := hl z; omega
    rw [show c - 1 + 1 = c by omega] at this
    rw [show c + 1 - 1 = c by omega]
    omega
theorem least_grow (ok : SgOk S) : ∀ (d : Nat) (a : Int), 0 ≤ a → (looseB S = true → a + d ≤ S.ln + 1) → leastO S a + d ≤ leastO S (a + d)
  | 0, a, _, _ => by simp
  | d + 1, a, h, hl => by
    have e := least_step ok (c := a + d) (by omega) fun z => by have := hl z; omega
    have i := least_grow ok d a h fun z => by have := hl z; omega
    rw [show a + ((d + 1 : Nat) : Int) = a + d + 1 by omega]
    omega
theorem least_mono (ok : SgOk S) {a b : Int} (h : 0 ≤ a) (hab : a ≤ b) (hl : looseB S = true → b ≤ S.ln + 1) : leastO S a + (b - a) ≤ leastO S b := by
  have i := least_grow ok (b - a).toNat a h fun z => by have := hl z; omega
  rw [show ((b - a).toNat : Int) = b - a by omega, show a + (b - a) = b by omega] at i
  exact i
theorem least_ge (ok : SgOk S) {c : Int} (h : 0 ≤ c) (hl : looseB S = true → c ≤ S.ln + 1) : c ≤ leastO S c := by
  have i := least_mono ok (a := 0) (by decide) h hl
  rw [least_zero] at i
  omega
/-- the greatest number of codes of z letters -/
def MostR (S : Sg) (z r : Int) : Prop := 0 ≤ r ∧ (looseB S = true → r ≤ S.ln + 1) ∧ leastO S r ≤ z ∧ ∀ c, r < c → (looseB S = true → c ≤ S.ln + 1) → z < leastO S c
theorem MostR.one {z r r' : Int} (a : MostR S z r) (b : MostR S z r') : r = r' := by
  obtain ⟨a1, a2, a3, a4⟩ := a
  obtain ⟨b1, b2, b3, b4⟩ := b
  rcases Int.lt_trichotomy r r' with h | h | h
  · have := a4 r' h b2
    omega
  · exact h
  · have := b4 r h a2
    omega
end

end Pt_level
section Pt_most
/-! ### levels.py: levels filled -/
def spFirst (K : PySem.W.Frag) : Sp := fun vs H Q _ => ∃ a S, vs = [.ref a] ∧ SetAt K H a S ∧ Q (.int (firstO S)) H
def deepV : Option Int → V
  | none => .non
  | some n => .int n
def capO (S : Sg) : Option Int → Nat → Int
  | none => freeC S
  | some n => capS (firstO S) S.q n
def Big31 (z : Int) : Prop := z ≤ 10000000000000000000000000000000
def NewI (H : Hp) (Q : VK) (L : List Int) : Prop := ∀ p H', H p = none → Same H H' → H' p = some (.lst (L.map V.int)) → Q (.ref p) H'
def spFilled (K : PySem.W.Frag) : Sp := fun vs H Q _ => ∃ a S m dp, vs = [.ref a, .int m, deepV dp] ∧ SetAt K H a S ∧ Big31 m ∧ ((fill (capO S dp) 1 m).length ≤ 5000) ∧ NewI H Q (fill (capO S dp) 1 m)
def spFillBut : Sp := fun vs H Q _ => ∃ (q : Nat) (m : Int) (s : Nat), vs = [.int q, .int m, .int s] ∧ 2 ≤ q ∧ q ≤ 26 ∧ 1 ≤ s ∧ m ≤ 5000 ∧ NewI H Q (fill (capB q s) 1 m)
def spLetIn : Sp := fun vs H Q _ => ∃ a L, vs = [.ref a] ∧ H a = some (.lst (L.map V.int)) ∧ L.length ≤ 10000 ∧ ∀ H', Same H H' → Q (.int (letO 1 L)) H'
def spAdded : Sp := fun vs H Q _ => ∃ a b L M, vs = [.ref a, .ref b] ∧ H a = some (.lst (L.map V.int)) ∧ H b = some (.lst (M.map V.int)) ∧ L.length ≤ 10000 ∧ M.length ≤ 10000 ∧ NewI H Q (addO L M)
def spSparedC (K : PySem.W.Frag) : Sp := fun vs H Q _ => ∃ a S m s, vs = [.ref a, .int m, .int (s : Nat)] ∧ SetAt K H a S ∧ SgOk S ∧ S.lk = .standing ∧ 1 ≤ s ∧ s ≤ 5000 ∧ NewI H Q (spC S s m)
local macro_rules | `(tactic| walk_at "cond") => `(tactic| first | (refine small_mul ?_ ?_ <;> omega) | (refine small_mul' ?_ ?_ <;> omega) | (refine small_div ?_ ?_ <;> omega))
theorem fill_next {c : Nat → Int} (hc : ∀ d, 1 ≤ c d) {F : List Int} {l m : Int} (h : F ++ fill c (F.length + 1) l = fill c 1 m) (hl : 0 < l) : F ++ [min (c (F.length + 1)) l] ++ fill c ((F ++ [min (c (F.length + 1)) l]).length + 1) (l - min (c (F.length + 1)) l) = fill c 1 m := by
  rw [← h, fill_cons hc hl, List.length_append, List.append_assoc]
  rfl
theorem cap_next (a q : Int) (F : List Int) (x : Int) : capG a q ((F ++ [x]).length + 1) = capG a q (F.length + 1) * q := by
  unfold capG
  rw [List.length_append, List.length_singleton, show F.length + 1 + 1 - 1 = F.length + 1 by omega, show F.length + 1 - 1 = F.length by omega, Int.pow_succ, Int.mul_assoc]
theorem cap_start (a q : Int) : capG a q (([] : List Int).length + 1) = a := by
  unfold capG
  show a * q ^ 0 = a
  rw [Int.pow_zero, Int.mul_one]
theorem min_if (i j : Int) : (if j < i then j else i) = min i j := by split <;> omega
theorem intD (i : Int) (dp : Option Int) : decide (V.int i = deepV dp) = decide (some i = dp) := by
  cases dp with
  | none => exact decide_eq_decide.mpr ⟨fun h => (by cases h), fun h => (by cases h)⟩
  | some n => exact decide_eq_decide.mpr ⟨fun h => (by injection h with h; rw [h]), fun h => (by injection h with h; rw [h]; rfl)⟩
/-- [e for i, x in enumerate(a list of ints)] -/
theorem lc_enumI {K : PySem.W.Frag} {σ : L2.St} {Q : VK} {H H1 : Hp} {ta : TA} {te : TE} {vs : List Nat} {i1 j1 : Nat} {a : Addr} {L : List Int} (g : Nat → Int → Int) (hs : ∀ R : List V → Hp → Prop, R [.ref a] H1 → ta σ H R) (ha : H1 a = some (.lst (L.map V.int))) (hl : L.length ≤ sizeLine)
    (hel : ∀ (i : Nat) (x : Int), x ∈ L → i < L.length → ∀ H', Same H1 H' → ∀ R : VK, (∀ H'', Same H' H'' → R (.int (g i x)) H'') → te (((wipe σ vs).set i1 (some (.int (i : Nat)))).set j1 (some (.int x))) H' R)
    (q : ∀ D H', H1 D = none → Same H1 H' → H' D = some (.lst ((L.zipIdx.map fun p => g p.2 p.1).map V.int)) → Q (.ref D) H') (hw : ∀ x y, wipe (((wipe σ vs).set i1 (some x)).set j1 (some y)) vs = wipe σ vs := by intro _ _; rfl) :
    tLc (iEnum K ta) (gTup K 2 (gCons (gName i1) (gCons (gName j1) gNil))) tYes te vs σ H Q := by
  have eq : ((L.map V.int).zipIdx.map fun p : V × Nat => (V.int ((p.2 : Nat) : Int), p.1)) = L.zipIdx.map fun p => (V.int ((p.2 : Nat) : Int), V.int p.1) := by
    rw [List.zipIdx_map, List.map_map]
    rfl
  refine hs _ ⟨a, L.map V.int, rfl, SqL.of ha, lcP_map (fun x y => match x, y with | .int i, .int z => .int (g i.toNat z) | _, _ => .non) (fun x y => ((wipe σ vs).set i1 (some x)).set j1 (some y)) (pairIt_enum (SqL.of ha)) (by rw [List.length_map, List.length_zipIdx, List.length_map]; exact hl) (fun T x y H' R hT hR => ⟨T, [x, y], rfl, SqT.of hT, rfl, _, _, rfl, _, _, rfl, rfl, hR⟩) (fun p hp H' e R hR => ?_) (fun D H' h1 h2 h3 => q D H' h1 h2 ?_) hw⟩
  · rw [eq] at hp
    obtain ⟨⟨z, n⟩, hz, rfl⟩ := List.mem_map.mp hp
    obtain ⟨b1, b2, b3⟩ := List.mem_zipIdx hz
    exact hel n z (by rw [b3]; exact List.getElem_mem _) (by omega) H' e R hR
  · rw [h3, eq, List.map_map, List.map_map]
    rfl
theorem zipW_eq (g : Int → Int → Int) : ∀ L M : List Int, List.zipWith g L M = (L.zip M).map fun p => g p.1 p.2
  | [], _ => rfl
  | _ :: _, [] => rfl
  | x :: L, y :: M => by rw [List.zipWith_cons_cons, List.zip_cons_cons, List.map_cons, zipW_eq g L M]
theorem zip_zero (g : Int → Int → Int) (hg : ∀ x y, g x y = x + y) : ∀ (L M : List Int), List.zipWith g (L ++ List.replicate (max L.length M.length - L.length) 0) (M ++ List.replicate (max L.length M.length - M.length) 0) = addO L M
  | [], [] => rfl
  | [], y :: M => by
    have i := zip_zero g hg [] M
    rw [show max ([] : List Int).length (y :: M).length - ([] : List Int).length = (max ([] : List Int).length M.length - ([] : List Int).length) + 1 by simp, show max ([] : List Int).length (y :: M).length - (y :: M).length = max ([] : List Int).length M.length - M.length by simp, List.replicate_succ, List.nil_append, List.cons_append, List.zipWith_cons_cons, hg, Int.zero_add]
    have e : addO [] M = M := by cases M <;> rfl
    rw [List.nil_append, e] at i
    rw [i]
    rfl
  | x :: L, [] => by
    have i := zip_zero g hg L []
    rw [show max (x :: L).length ([] : List Int).length - ([] : List Int).length = (max L.length ([] : List Int).length - ([] : List Int).length) + 1 by simp, show max (x :: L).length ([] : List Int).length - (x :: L).length = max L.length ([] : List Int).length - L.length by simp, List.replicate_succ, List.nil_append, List.cons_append, List.zipWith_cons_cons, hg, Int.add_zero]
    have e : addO L [] = L := by cases L <;> rfl
    rw [List.nil_append, e] at i
    rw [i]
    rfl
  | x :: L, y :: M => by
    have i := zip_zero g hg L M
    rw [show max (x :: L).length (y :: M).length - (x :: L).length = max L.length M.length - L.length by simp only [List.length_cons]; omega, show max (x :: L).length (y :: M).length - (y :: M).length = max L.length M.length - M.length by simp only [List.length_cons]; omega, List.cons_append, List.cons_append, List.zipWith_cons_cons, i, hg]
    rfl
theorem lc_zipI {K : PySem.W.Frag} {σ : L2.St} {Q : VK} {H H1 : Hp} {ta : TA} {te : TE} {vs : List Nat} {i1 j1 : Nat} {a b : Addr} {L M : List Int} (g : Int → Int → Int) (hs : ∀ R : List V → Hp → Prop, R [.ref a, .ref b] H1 → ta σ H R) (ha : H1 a = some (.lst (L.map V.int))) (hb : H1 b = some (.lst (M.map V.int))) (hl : L.length ≤ sizeLine)
    (hel : ∀ (x y : Int), ∀ H', Same H1 H' → ∀ R : VK, (∀ H'', Same H' H'' → R (.int (g x y)) H'') → te (((wipe σ vs).set i1 (some (.int x))).set j1 (some (.int y))) H' R)
    (q : ∀ D H', H1 D = none → Same H1 H' → H' D = some (.lst ((List.zipWith g L M).map V.int)) → Q (.ref D) H') (hw : ∀ x y, wipe (((wipe σ vs).set i1 (some x)).set j1 (some y)) vs = wipe σ vs := by intro _ _; rfl) :
    tLc (RZ.iZipA K ta) (gTup K 2 (gCons (gName i1) (gCons (gName j1) gNil))) tYes te vs σ H Q := by
  refine hs _ ⟨a, b, _, _, rfl, .inl ⟨SqL.of ha, SqL.of hb, lcP_map (fun x y => match x, y with | .int i, .int z => .int (g i z) | _, _ => .non) (fun x y => ((wipe σ vs).set i1 (some x)).set j1 (some y)) (pairIt_zip (SqL.of ha) (SqL.of hb)) (by rw [List.length_zip, List.length_map, List.length_map]; omega) (fun T x y H' R hT hR => ⟨T, [x, y], rfl, SqT.of hT, rfl, _, _, rfl, _, _, rfl, rfl, hR⟩) (fun p hp H' e R hR => ?_) (fun D H' h1 h2 h3 => q D H' h1 h2 ?_) hw⟩⟩
  · rw [List.zip_map] at hp
    obtain ⟨⟨x, y⟩, hz, rfl⟩ := List.mem_map.mp hp
    exact hel x y H' e R hR
  · rw [h3, List.zip_map, List.map_map, zipW_eq, List.map_map]
    rfl
theorem enum_let : ∀ (L : List Int) (k : Nat), ((L.zipIdx k).map fun p => ((p.2 : Int) + 1) * p.1).sum = letO (k + 1) L
  | [], _ => rfl
  | x :: L, k => by
    rw [List.zipIdx_cons, List.map_cons, List.sum_cons, enum_let L (k + 1)]
    rfl
theorem same_put {H H' : Hp} {p : Addr} {o : HO} (hp : H p = none) (e : Same H H') : Same H (upd H' p o) := fun b u hb => by
  rw [upd_ne (ne_of_none hb hp)]
  exact e b u hb
section
variable {P : Program} {w : World} {K : PySem.W.Frag} {mg : Str → Option Value} {base : Heap}
theorem d_first_level (T : Txt K mg) (F : FD K mg "first_level" s_first_level) : Dn P w K mg base 1 "first_level" s_first_level ["setting"] (spFirst K) := by
  refine dn_of F (fun _ _ _ _ _ _ us hl => match us, hl with | [_], _ => rfl) sc_first_level (fun vs H Q E h => ?_) (fun fa cdv A outer s H vs Q E hr h => ?_)
  · obtain ⟨a, S, rfl, _⟩ := h
    rfl
  · obtain ⟨a, S, rfl, ⟨dx, l, ha, hl, q1, q2⟩, k⟩ := h
    refine ⟨_, PSs.nox (pss_one (ps_ret (pe_ifExp (pt_val (pe_callB call_isi (by rfl) T.n_isinstance (by decide +kernel) (pa_cons (pv 0) (pa_cons (pe_gc rfl (T.gc_Hidden)) pa_nil))) (by intro _; rfl)) (pe_op op_mulA (pe_fld (pv 0) rfl) (pe_fld (pv 0) rfl)) (pe_fld (pv 0) rfl)))), ?_⟩
    refine w_start (σ := [some (.ref a)]) rfl ?_
    repeat walk_at "st"
    refine w_isaB ha (T.cl_set _) (T.isa_hid _) ?_
    have hf : firstO S = if S.hid = true then (S.q : Int) * S.q else S.q := rfl
    rw [hf] at k
    cases eh : S.hid with
    | true =>
      rw [eh, if_pos rfl] at k
      repeat walk_at "st"
      exact k
    | false =>
      rw [eh, if_neg (by decide)] at k
      repeat walk_at "st"
      exact k
theorem len_filled : ∀ vs H Q E, spFilled K vs H Q E → vs.length = 3 := by
  rintro vs H Q E ⟨a, S, m, dp, rfl, _⟩
  rfl
theorem b_filled (T : Txt K mg) (c_first_level : Dn P w K mg base 1 "first_level" s_first_level ["setting"] (spFirst K)) : BodyOk P w K mg base 1 "filled" s_filled ["setting", "many", "deepest", "size", "left", "found", "taken"] (spFilled K) := by
  refine fun fa cdv A outer s H vs Q E hr h => ?_
  obtain ⟨a, S, m, dp, rfl, hS, hm, hlen, k⟩ := h
  have hm : m ≤ 10000000000000000000000000000000 := hm
  have sz := sizeLine_eq
  refine ⟨_, PSs.nox (pss_cons (ps_par (i := 3) (j := 4) (by rfl) sc_filled.nd rfl rfl (by decide) rfl rfl (pa_cons (pe_d c_first_level hr (by decide) rfl (pa_cons (pv 0) pa_nil)) (pa_cons (pv 1) pa_nil)) (by rfl))
 (pss_cons (ps_set (i := 5) sc_filled.nd rfl (Or.inl rfl) (pe_lst pa_nil))
 (pss_cons (ps_while PassesOwn.never (pt_cmpR op_gt (pv 4) pe_int (nomark _))
 (pss_cons (ps_set (i := 6) sc_filled.nd rfl (Or.inl rfl) (pe_ifExp (pt_cmpR op_eq (pe_op op_add (pe_callB cl_lenQ (by rfl) T.n_len (by decide +kernel) (pa_cons (pv 5) pa_nil)) pe_int) (pv 2) (nomark _)) (pv 4) (pe_callB (call_min2 rfl) (by rfl) T.n_min (by decide +kernel) (pa_cons (pe_callTy cl_int1 (by rfl) T.n_int (by decide +kernel) (pa_cons (pv 3) pa_nil)) (pa_cons (pe_callTy cl_int1 (by rfl) T.n_int (by decide +kernel) (pa_cons (pv 4) pa_nil)) pa_nil)))))
 (pss_cons (ps_expr (pe_bm PySem.F.plainAttrs_list PySem.F.slot_list_append PySem.F.type_list_append mt_append (pv 5) (pa_cons (pv 6) pa_nil)))
 (pss_cons (ps_aug (i := 4) sc_filled.nd rfl (Or.inl rfl) (pv 6) iop_sub)
 (pss_one (ps_set (i := 3) sc_filled.nd rfl (Or.inl rfl) (pe_op op_mulA (pv 3) (pe_fld (pv 0) rfl))))))))
 (pss_one (ps_ret (pv 5)))))), ?_⟩
  refine w_start (σ := [some (.ref a), some (.int m), some (deepV dp), none, none, none, none]) rfl ?_
  repeat walk_at "st"
  refine ⟨a, S, rfl, hS, ?_⟩
  obtain ⟨dx, l, ha, hl, q1, q2⟩ := hS
  have qi : 2 ≤ (S.q : Int) ∧ (S.q : Int) ≤ 26 := by omega
  have f2 : 2 ≤ firstO S := by
    unfold firstO
    split
    · have := Int.mul_le_mul (a := 2) (c := (S.q : Int)) (b := 2) (d := (S.q : Int)) (by omega) (by omega) (by decide) (by omega)
      omega
    · omega
  have hc : ∀ d, 1 ≤ capO S dp d := fun d => by
    cases dp with
    | none => exact capG_pos (by omega) (by omega) d
    | some n => exact capS_pos (by omega) (by omega) d
  repeat walk_at "st"
  refine ⟨by walk_at "len", fun fo hfo => ?_⟩
  repeat walk_at "st"
  with_reducible refine w_seq ?_
  refine ⟨fun t σ' H' => ∃ (F : List Int) (lf : Int) (o : Option V), σ' = [some (.ref a), some (.int m), some (deepV dp), some (.int (capG (firstO S) S.q (F.length + 1))), some (.int lf), some (.ref fo), o] ∧ t = lf.toNat ∧ Same H H' ∧ H' fo = some (.lst (F.map V.int)) ∧ F ++ fill (capO S dp) (F.length + 1) lf = fill (capO S dp) 1 m ∧ lf ≤ m,
    ⟨_, [], m, none, by rw [cap_start], rfl, same_new hfo (Same.refl H), upd_same, rfl, Int.le_refl _⟩, ?_⟩
  rintro t σ' H' ⟨F, lf, o, rfl, rfl, e, hF, hinv, hle⟩
  obtain ⟨cz, hcz⟩ : ∃ x, x = capG (firstO S) S.q (F.length + 1) := ⟨_, rfl⟩
  have fl : F.length ≤ 5000 := by
    have := congrArg List.length hinv
    rw [List.length_append] at this
    omega
  rw [← hcz]
  repeat walk_at "st"
  refine w_ite (fun h1 => ?_) (fun h1 => ?_)
  · have nx := fill_next hc hinv (by omega)
    refine ⟨fun σ2 H2 => ∃ tk o, σ2 = [some (.ref a), some (.int m), some (deepV dp), some (.int (cz * S.q)), some (.int (lf - tk)), some (.ref fo), o] ∧ Same H H2 ∧ H2 fo = some (.lst ((F ++ [tk]).map V.int)) ∧ tk = min (capO S dp (F.length + 1)) lf, ?_, ?_⟩
    · rintro σ2 H2 ⟨tk, o2, rfl, e2, hF2, htk⟩
      have := hc (F.length + 1)
      refine ⟨(lf - tk).toNat, by omega, F ++ [tk], lf - tk, o2, ?_, rfl, e2, hF2, ?_, by omega⟩
      · rw [cap_next, ← hcz]
      · rw [htk]
        exact nx
    · have fin : ∀ tk : Int, tk = min (capO S dp (F.length + 1)) lf → ∀ o, ∃ tk' o', [some (.ref a), some (.int m), some (deepV dp), some (.int (cz * S.q)), some (.int (lf - tk)), some (.ref fo), o] = [some (.ref a), some (.int m), some (deepV dp), some (.int (cz * S.q)), some (.int (lf - tk')), some (.ref fo), o'] ∧ Same H (upd H' fo (.lst ((F ++ [tk]).map V.int))) ∧ (upd H' fo (.lst ((F ++ [tk]).map V.int))) fo = some (.lst ((F ++ [tk']).map V.int)) ∧ tk' = min (capO S dp (F.length + 1)) lf :=
        fun tk h o => ⟨tk, o, rfl, same_put hfo e, upd_same, h⟩
      have ha2 := e _ _ ha
      have nfa := ne_of_none ha hfo
      repeat walk_at "st"
      refine ⟨by cases dp <;> rfl, ?_⟩
      rw [intD, List.length_map]
      repeat walk_at "st"
      refine w_ite (fun h2 => ?_) (fun h2 => ?_)
      · repeat walk_at "st"
        refine w_appI hF (by omega) ?_
        repeat walk_at "st"
        refine fin _ ?_ _
        cases dp with
        | none => cases h2
        | some n =>
          injection h2 with h2
          have e3 : capO S (some n) (F.length + 1) = big40 := by
            show capS (firstO S) S.q n (F.length + 1) = big40
            unfold capS
            rw [if_pos (by omega)]
          rw [e3]
          have : big40 = 10000000000000000000000000000000000000000 := rfl
          omega
      · repeat walk_at "st"
        refine ⟨_, _, rfl, ?_⟩
        repeat walk_at "st"
        refine w_appI hF (by omega) ?_
        repeat walk_at "st"
        refine fin _ ?_ _
        have e3 : capO S dp (F.length + 1) = cz := by
          rw [hcz]
          cases dp with
          | none => rfl
          | some n =>
            show capS (firstO S) S.q n (F.length + 1) = _
            unfold capS
            rw [if_neg fun z => h2 (by rw [← z]; rfl)]
        rw [e3, min_if]
  · repeat walk_at "st"
    have z : fill (capO S dp) (F.length + 1) lf = [] := fill_nil (by omega)
    rw [z, List.append_nil] at hinv
    rw [hinv] at hF
    exact k fo H' hfo e hF
theorem filled2 (T : Txt K mg) {f : Addr} (F : FA K "filled" "filled" s_filled [.non] f) (c_first_level : Dn P w K mg base 1 "first_level" s_first_level ["setting"] (spFirst K)) : Fr P w K mg base (1 + 1) f ["setting", "many", "deepest"] [.non] (spFilled K) :=
  fr_ofD 2 0 F (by simp) rfl (fun _ _ _ _ _ _ _ us its h1 h2 => match us, its, h1, h2 with | [_, _], [_], _, _ => ⟨_, rfl, rfl⟩) sc_filled len_filled (b_filled T c_first_level)
theorem filled3 (T : Txt K mg) {f : Addr} (F : FA K "filled" "filled" s_filled [.non] f) (c_first_level : Dn P w K mg base 1 "first_level" s_first_level ["setting"] (spFirst K)) : Fr P w K mg base (1 + 1) f ["setting", "many", "deepest"] [] (spFilled K) :=
  fr_ofD 3 1 F (by simp) rfl (fun _ _ _ _ _ _ _ us its h1 h2 => match us, its, h1, h2 with | [_, _, _], [_], _, _ => ⟨_, rfl, rfl⟩) sc_filled len_filled (b_filled T c_first_level)
theorem d_letters_in (T : Txt K mg) (F : FD K mg "letters_in" s_letters_in) : Dn P w K mg base 1 "letters_in" s_letters_in ["counts"] (spLetIn) := by
  refine dn_of F (fun _ _ _ _ _ _ us hl => match us, hl with | [_], _ => rfl) sc_letters_in (fun vs H Q E h => ?_) (fun fa cdv A outer s H vs Q E hr h => ?_)
  · obtain ⟨a, L, rfl, _⟩ := h
    rfl
  · obtain ⟨a, L, rfl, ha, hl, k⟩ := h
    have sz := sizeLine_eq
    refine ⟨_, PSs.nox (pss_one (ps_ret (pe_callB (cr_sum rfl) (by rfl) T.n_sum (by decide +kernel) (pa_cons (pe_lc (own := [("at", 1), ("number", 2)]) (tt := tYes) (g := gTup K 2 (gCons (gName 1) (gCons (gName 2) (gNil)))) rfl sc_letters_in.nd (pi_enum (by rfl) T.n_enumerate (pa_cons (pv 0) pa_nil)) (blkOk_by (N := ["counts", "at", "number"]) (sc := defScope s_letters_in) (by decide +kernel)) (fun _ _ _ _ _ => (pg_tup rfl (pgs_cons (pg_name (i := 1) sc_letters_in.nd rfl (Or.inl rfl)) (pgs_cons (pg_name (i := 2) sc_letters_in.nd rfl (Or.inl rfl)) pgs_nil)))) (fun _ _ _ _ _ => pts_nil) (fun _ _ _ _ _ => (pe_op op_mulA (pe_op op_add (pv 1) pe_int) (pv 2)))) pa_nil)))), ?_⟩
    refine w_start (σ := [some (.ref a), none, none]) rfl ?_
    repeat walk_at "st"
    refine lc_enumI (L := L) (fun i x => ((i : Int) + 1) * x) (fun R hR => ?_) ha (by omega) (fun i x hx hi H' e R hR => ?_) fun D H1 hD e hD1 => ?_
    · repeat walk_at "st"
      exact hR
    · simp only [wipe, List.map, List.set]
      repeat walk_at "st"
      exact hR H' (Same.refl _)
    repeat walk_at "st"
    refine ⟨D, _, rfl, SqL.of hD1, ?_⟩
    rw [enum_let]
    exact k H1 e
theorem d_filled_but (T : Txt K mg) (F : FD K mg "filled_but" s_filled_but) : Dn P w K mg base 1 "filled_but" s_filled_but ["letters", "many", "spared"] (spFillBut) := by
  refine dn_of F (fun _ _ _ _ _ _ us hl => match us, hl with | [_, _, _], _ => rfl) sc_filled_but (fun vs H Q E h => ?_) (fun fa cdv A outer s H vs Q E hr h => ?_)
  · obtain ⟨q, m, s, rfl, _⟩ := h
    rfl
  · obtain ⟨q, m, s, rfl, q1, q2, s1, hm, k⟩ := h
    have sz := sizeLine_eq
    have hc := capB_pos (q := (q : Int)) (by omega) s1
    refine ⟨_, PSs.nox (pss_cons (ps_par3 (i := 3) (j := 4) (l := 5) (by rfl) sc_filled_but.nd rfl rfl rfl (by decide) (by decide) (by decide) rfl rfl rfl (pa_cons (pv 0) (pa_cons pe_int (pa_cons (pv 1) pa_nil))) (by rfl))
 (pss_cons (ps_set (i := 6) sc_filled_but.nd rfl (Or.inl rfl) (pe_lst pa_nil))
 (pss_cons (ps_while PassesOwn.never (pt_cmpR op_gt (pv 5) pe_int (nomark _))
 (pss_cons (ps_if (pt_cmpR op_eq (pe_op op_add (pe_callB cl_lenQ (by rfl) T.n_len (by decide +kernel) (pa_cons (pv 6) pa_nil)) pe_int) (pv 2) (nomark _))
 (pss_one (ps_set (i := 4) sc_filled_but.nd rfl (Or.inl rfl) pe_int))
 pss_nil)
 (pss_cons (ps_set (i := 7) sc_filled_but.nd rfl (Or.inl rfl) (pe_callB (call_min2 rfl) (by rfl) T.n_min (by decide +kernel) (pa_cons (pe_callTy cl_int1 (by rfl) T.n_int (by decide +kernel) (pa_cons (pe_op op_sub (pv 3) (pv 4)) pa_nil)) (pa_cons (pe_callTy cl_int1 (by rfl) T.n_int (by decide +kernel) (pa_cons (pv 5) pa_nil)) pa_nil))))
 (pss_cons (ps_expr (pe_bm PySem.F.plainAttrs_list PySem.F.slot_list_append PySem.F.type_list_append mt_append (pv 6) (pa_cons (pv 7) pa_nil)))
 (pss_cons (ps_aug (i := 5) sc_filled_but.nd rfl (Or.inl rfl) (pv 7) iop_sub)
 (pss_one (ps_par (i := 3) (j := 4) (by rfl) sc_filled_but.nd rfl rfl (by decide) rfl rfl (pa_cons (pe_op op_mulA (pv 3) (pv 0)) (pa_cons (pe_op op_mulA (pv 4) (pv 0)) pa_nil)) (by rfl))))))))
 (pss_one (ps_ret (pv 6)))))), ?_⟩
    refine w_start (σ := [some (.int q), some (.int m), some (.int s), none, none, none, none, none]) rfl ?_
    repeat walk_at "st"
    refine ⟨by walk_at "len", fun fo hfo => ?_⟩
    repeat walk_at "st"
    with_reducible refine w_seq ?_
    have l0 : ∀ d : Nat, (if s ≤ d then (q : Int) ^ (d - s) else 0) = (if s ≤ d then (q : Int) ^ (d - s) else 0) := fun _ => rfl
    refine ⟨fun t σ' H' => ∃ (F : List Int) (lf : Int) (o : Option V), σ' = [some (.int q), some (.int m), some (.int s), some (.int ((q : Int) ^ (F.length + 1))), some (.int (if s ≤ F.length then (q : Int) ^ (F.length + 1 - s) else 0)), some (.int lf), some (.ref fo), o] ∧ t = lf.toNat ∧ Same H H' ∧ H' fo = some (.lst (F.map V.int)) ∧ F ++ fill (capB q s) (F.length + 1) lf = fill (capB q s) 1 m ∧ lf ≤ m,
      ⟨_, [], m, none, by rw [show ([] : List Int).length = 0 from rfl, if_neg (by omega)]; show _ = [_, _, _, some (V.int ((q : Int) ^ 1)), _, _, _, _]; rw [Int.pow_succ, Int.pow_zero, Int.one_mul], rfl, same_new hfo (Same.refl H), upd_same, rfl, Int.le_refl _⟩, ?_⟩
    rintro t σ' H' ⟨F, lf, o, rfl, rfl, e, hF, hinv, hle⟩
    have fl : F.length ≤ 5000 := by
      have h1 := congrArg List.length hinv
      have h2 := fill_len hc _ 1 m (Nat.le_refl _)
      rw [List.length_append] at h1
      omega
    repeat walk_at "st"
    refine w_ite (fun h1 => ?_) (fun h1 => ?_)
    · have nx := fill_next hc hinv (by omega)
      refine ⟨fun σ2 H2 => ∃ tk o, σ2 = [some (.int q), some (.int m), some (.int s), some (.int ((q : Int) ^ (F.length + 1) * q)), some (.int (if s ≤ F.length + 1 then (q : Int) ^ (F.length + 2 - s) else 0)), some (.int (lf - tk)), some (.ref fo), o] ∧ Same H H2 ∧ H2 fo = some (.lst ((F ++ [tk]).map V.int)) ∧ tk = min (capB q s (F.length + 1)) lf, ?_, ?_⟩
      · rintro σ2 H2 ⟨tk, o2, rfl, e2, hF2, htk⟩
        have := hc (F.length + 1)
        refine ⟨(lf - tk).toNat, by omega, F ++ [tk], lf - tk, o2, ?_, rfl, e2, hF2, ?_, by omega⟩
        · rw [List.length_append, List.length_singleton, ← Int.pow_succ]
        · rw [htk]
          exact nx
      · have lost : ∀ b : Bool, b = decide (F.length + 1 = s) → (if s ≤ F.length + 1 then (q : Int) ^ (F.length + 1 - s) else 0) = if b = true then (1 : Int) else (if s ≤ F.length then (q : Int) ^ (F.length + 1 - s) else 0) := fun b hb => by
          subst hb
          by_cases z : F.length + 1 = s
          · rw [if_pos (by omega), decide_eq_true z, if_pos rfl, z, Nat.sub_self, Int.pow_zero]
          · rw [decide_eq_false z, if_neg Bool.false_ne_true]
            by_cases z2 : s ≤ F.length
            · rw [if_pos (by omega), if_pos z2]
            · rw [if_neg (by omega), if_neg z2]
        repeat walk_at "st"
        with_reducible refine w_seq ?_
        repeat walk_at "st"
        rw [List.length_map]
        have fin : ∀ (tk ls : Int), tk = min ((q : Int) ^ (F.length + 1) - ls) lf → ls = (if s ≤ F.length + 1 then (q : Int) ^ (F.length + 1 - s) else 0) → ∀ o, ∃ tk' o', ([some (.int q), some (.int m), some (.int s), some (.int ((q : Int) ^ (F.length + 1) * q)), some (.int (ls * q)), some (.int (lf - tk)), some (.ref fo), o] : L2.St) = [some (.int q), some (.int m), some (.int s), some (.int ((q : Int) ^ (F.length + 1) * q)), some (.int (if s ≤ F.length + 1 then (q : Int) ^ (F.length + 2 - s) else 0)), some (.int (lf - tk')), some (.ref fo), o'] ∧ Same H (upd H' fo (.lst ((F ++ [tk]).map V.int))) ∧ (upd H' fo (.lst ((F ++ [tk]).map V.int))) fo = some (.lst ((F ++ [tk']).map V.int)) ∧ tk' = min (capB q s (F.length + 1)) lf :=
          fun tk ls h1 h2 o => ⟨tk, o, by
            have e4 : ls * (q : Int) = if s ≤ F.length + 1 then (q : Int) ^ (F.length + 2 - s) else 0 := by
              rw [h2]
              by_cases z : s ≤ F.length + 1
              · rw [if_pos z, if_pos z, show F.length + 2 - s = (F.length + 1 - s) + 1 by omega, Int.pow_succ]
              · rw [if_neg z, if_neg z, Int.zero_mul]
            rw [e4], same_put hfo e, upd_same, by rw [h1, h2]; rfl⟩
        refine w_ite (fun h2 => ?_) (fun h2 => ?_)
        · have h2 : F.length + 1 = s := by injection h2 with h2; omega
          repeat walk_at "st"
          refine ⟨_, _, rfl, ?_⟩
          repeat walk_at "st"
          refine w_appI hF (by omega) ?_
          repeat walk_at "st"
          refine fin _ _ (by rw [min_if]) ?_ _
          rw [lost true (decide_eq_true h2).symm, if_pos rfl]
        · have h2 : ¬ F.length + 1 = s := fun z => h2 (by rw [← z]; rfl)
          repeat walk_at "st"
          refine ⟨_, _, rfl, ?_⟩
          repeat walk_at "st"
          refine w_appI hF (by omega) ?_
          repeat walk_at "st"
          refine fin _ _ (by rw [min_if]) ?_ _
          rw [lost false (decide_eq_false h2).symm, if_neg Bool.false_ne_true]
    · repeat walk_at "st"
      have z : fill (capB q s) (F.length + 1) lf = [] := fill_nil (by omega)
      rw [z, List.append_nil] at hinv
      rw [hinv] at hF
      exact k fo H' hfo e hF
theorem d_added (T : Txt K mg) (F : FD K mg "added" s_added) : Dn P w K mg base 1 "added" s_added ["counts", "others"] (spAdded) := by
  refine dn_of F (fun _ _ _ _ _ _ us hl => match us, hl with | [_, _], _ => rfl) sc_added (fun vs H Q E h => ?_) (fun fa cdv A outer s H vs Q E hr h => ?_)
  · obtain ⟨a, b, L, M, rfl, _⟩ := h
    rfl
  · obtain ⟨a, b, L, M, rfl, ha, hb, l1, l2, k⟩ := h
    have sz := sizeLine_eq
    refine ⟨_, PSs.nox (pss_cons (ps_set (i := 2) sc_added.nd rfl (Or.inl rfl) (pe_callB (call_max2 rfl) (by rfl) T.n_max (by decide +kernel) (pa_cons (pe_callB cl_lenQ (by rfl) T.n_len (by decide +kernel) (pa_cons (pv 0) pa_nil)) (pa_cons (pe_callB cl_lenQ (by rfl) T.n_len (by decide +kernel) (pa_cons (pv 1) pa_nil)) pa_nil))))
 (pss_cons (ps_par (i := 3) (j := 4) (by rfl) sc_added.nd rfl rfl (by decide) rfl rfl (pa_cons (pe_lst (StX.pa_star (pv 0) (StX.pa_star (pe_op op_rep (pe_lst (pa_cons pe_int pa_nil)) (pe_op op_sub (pv 2) (pe_callB cl_lenQ (by rfl) T.n_len (by decide +kernel) (pa_cons (pv 0) pa_nil)))) pa_nil))) (pa_cons (pe_lst (StX.pa_star (pv 1) (StX.pa_star (pe_op op_rep (pe_lst (pa_cons pe_int pa_nil)) (pe_op op_sub (pv 2) (pe_callB cl_lenQ (by rfl) T.n_len (by decide +kernel) (pa_cons (pv 1) pa_nil)))) pa_nil))) pa_nil)) (by rfl))
 (pss_one (ps_ret (pe_lc (own := [("one", 5), ("other", 6)]) (tt := tYes) (g := gTup K 2 (gCons (gName 5) (gCons (gName 6) (gNil)))) rfl sc_added.nd (RZ.pi_zipA (by rfl) T.n_zip (pa_cons (pv 3) (pa_cons (pv 4) pa_nil))) (blkOk_by (N := ["counts", "others", "size", "first", "last", "one", "other"]) (sc := defScope s_added) (by decide +kernel)) (fun _ _ _ _ _ => (pg_tup rfl (pgs_cons (pg_name (i := 5) sc_added.nd rfl (Or.inl rfl)) (pgs_cons (pg_name (i := 6) sc_added.nd rfl (Or.inl rfl)) pgs_nil)))) (fun _ _ _ _ _ => pts_nil) (fun _ _ _ _ _ => (pe_op op_add (pv 5) (pv 6)))))))), ?_⟩
    refine w_start (σ := [some (.ref a), some (.ref b), none, none, none, none, none]) rfl ?_
    repeat walk_at "st"
    rw [List.length_map, List.length_map]
    refine ⟨_, _, rfl, ?_⟩
    obtain ⟨n, hn⟩ : ∃ n : Nat, n = max L.length M.length := ⟨_, rfl⟩
    rw [show (if (M.length : Int) > (L.length : Int) then (M.length : Int) else (L.length : Int)) = (n : Int) by split <;> omega]
    repeat walk_at "st"
    refine ⟨a, _, rfl, .inr (SqL.of ha), ?_⟩
    repeat walk_at "st"
    refine ⟨by walk_at "len", fun p1 hp1 => ?_⟩
    have s1 := same_new (o := .lst [.int 0]) hp1 (Same.refl H)
    have f1 : upd H p1 (.lst [.int 0]) p1 = some (.lst [.int 0]) := upd_same
    generalize upd H p1 (.lst [.int 0]) = H1 at s1 f1 ⊢
    have ha1 := s1 _ _ ha
    have hb1 := s1 _ _ hb
    repeat walk_at "st"
    rw [List.length_map]
    refine ⟨p1, _, _, rfl, rfl, f1, by omega, by omega, by show 1 * _ ≤ _; omega, fun p2 hp2 => ?_⟩
    rw [rep_map _ _, show ((n : Int) - (L.length : Int)).toNat = n - L.length by omega]
    have s2 := same_new (o := .lst ((List.replicate (n - L.length) (0 : Int)).map V.int)) hp2 (Same.refl H1)
    have f2 : upd H1 p2 (.lst ((List.replicate (n - L.length) (0 : Int)).map V.int)) p2 = some (.lst ((List.replicate (n - L.length) (0 : Int)).map V.int)) := upd_same
    generalize upd H1 p2 (.lst ((List.replicate (n - L.length) (0 : Int)).map V.int)) = H2 at s2 f2 ⊢
    refine ⟨p2, _, rfl, .inr (SqL.of f2), ?_⟩
    repeat walk_at "st"
    refine ⟨by simp only [List.length_append, List.length_map, List.length_replicate, List.length_nil]; omega, fun fr hfr => ?_⟩
    rw [List.append_nil, ← List.map_append]
    have s3 := same_new (o := .lst ((L ++ List.replicate (n - L.length) (0 : Int)).map V.int)) hfr (Same.refl H2)
    have f3 : upd H2 fr (.lst ((L ++ List.replicate (n - L.length) (0 : Int)).map V.int)) fr = some (.lst ((L ++ List.replicate (n - L.length) (0 : Int)).map V.int)) := upd_same
    generalize upd H2 fr (.lst ((L ++ List.replicate (n - L.length) (0 : Int)).map V.int)) = H3 at s3 f3 ⊢
    have hb3 := s3 _ _ (s2 _ _ hb1)
    repeat walk_at "st"
    refine ⟨b, _, rfl, .inr (SqL.of hb3), ?_⟩
    repeat walk_at "st"
    refine ⟨by walk_at "len", fun p3 hp3 => ?_⟩
    have s4 := same_new (o := .lst [.int 0]) hp3 (Same.refl H3)
    have f4 : upd H3 p3 (.lst [.int 0]) p3 = some (.lst [.int 0]) := upd_same
    generalize upd H3 p3 (.lst [.int 0]) = H4 at s4 f4 ⊢
    have hb4 := s4 _ _ hb3
    repeat walk_at "st"
    rw [List.length_map]
    refine ⟨p3, _, _, rfl, rfl, f4, by omega, by omega, by show 1 * _ ≤ _; omega, fun p4 hp4 => ?_⟩
    rw [rep_map _ _, show ((n : Int) - (M.length : Int)).toNat = n - M.length by omega]
    have s5 := same_new (o := .lst ((List.replicate (n - M.length) (0 : Int)).map V.int)) hp4 (Same.refl H4)
    have f5 : upd H4 p4 (.lst ((List.replicate (n - M.length) (0 : Int)).map V.int)) p4 = some (.lst ((List.replicate (n - M.length) (0 : Int)).map V.int)) := upd_same
    generalize upd H4 p4 (.lst ((List.replicate (n - M.length) (0 : Int)).map V.int)) = H5 at s5 f5 ⊢
    refine ⟨p4, _, rfl, .inr (SqL.of f5), ?_⟩
    repeat walk_at "st"
    refine ⟨by simp only [List.length_append, List.length_map, List.length_replicate, List.length_nil]; omega, fun ls hls => ?_⟩
    rw [List.append_nil, ← List.map_append]
    have s6 := same_new (o := .lst ((M ++ List.replicate (n - M.length) (0 : Int)).map V.int)) hls (Same.refl H5)
    have f6 : upd H5 ls (.lst ((M ++ List.replicate (n - M.length) (0 : Int)).map V.int)) ls = some (.lst ((M ++ List.replicate (n - M.length) (0 : Int)).map V.int)) := upd_same
    generalize upd H5 ls (.lst ((M ++ List.replicate (n - M.length) (0 : Int)).map V.int)) = H6 at s6 f6 ⊢
    have f36 := s6 _ _ (s5 _ _ (s4 _ _ f3))
    have sH : Same H H6 := ((((s1.trans s2).trans s3).trans s4).trans s5).trans s6
    repeat walk_at "st"
    refine lc_zipI (L := L ++ List.replicate (n - L.length) (0 : Int)) (M := M ++ List.replicate (n - M.length) (0 : Int)) (fun x y => x + y) (fun R hR => ?_) f36 f6 (by rw [List.length_append, List.length_replicate]; omega) (fun x y H' e R hR => ?_) fun D H7 hD e hD7 => ?_
    · repeat walk_at "st"
      exact hR
    · simp only [wipe, List.map, List.set]
      repeat walk_at "st"
      exact hR H' (Same.refl _)
    rw [hn, zip_zero _ (fun _ _ => rfl)] at hD7
    exact k D H7 (same_free sH hD) (sH.trans e) hD7
theorem d_spared_counts (T : Txt K mg) (F : FD K mg "spared_counts" s_spared_counts) (c_added : Dn P w K mg base 1 "added" s_added ["counts", "others"] (spAdded)) (c_filled_but : Dn P w K mg base 1 "filled_but" s_filled_but ["letters", "many", "spared"] (spFillBut)) (c_set_limit : ∀ h : Bool, Fr P w K mg base 1 (gtA K (cSet K h) "limit") ["self"] [] (spSetLimit K h)) : Dn P w K mg base 3 "spared_counts" s_spared_counts ["setting", "many", "spared"] (spSparedC K) := by
  refine dn_of F (fun _ _ _ _ _ _ us hl => match us, hl with | [_, _, _], _ => rfl) sc_spared_counts (fun vs H Q E h => ?_) (fun fa cdv A outer s H vs Q E hr h => ?_)
  · obtain ⟨a, S, m, s, rfl, _⟩ := h
    rfl
  · obtain ⟨a, S, m, s, rfl, hS, ok, hk, s1, s2, k⟩ := h
    have sz := sizeLine_eq
    obtain ⟨dx, l, ha, ⟨dl, hl⟩, q1, q2⟩ := hS
    have lim := ok.lim
    rw [hk] at lim hl
    obtain ⟨n0, n1⟩ : 0 ≤ S.ln ∧ S.ln ≤ 4096 := lim
    refine ⟨_, PSs.nox (pss_cons (ps_set (i := 3) sc_spared_counts.nd rfl (Or.inl rfl) (pe_any fun h => pe_pr (c_set_limit h) (T.cl_set h) (T.pr_limit h) hr (by decide) (pv 0)))
 (pss_cons (ps_set (i := 4) sc_spared_counts.nd rfl (Or.inl rfl) (pe_op op_cat (pe_op op_rep (pe_lst (pa_cons pe_int pa_nil)) (pe_op op_sub (pv 2) pe_int)) (pe_lst (pa_cons (pe_op op_sub (pv 1) (pe_fld (pv 3) rfl)) pa_nil))))
 (pss_one (ps_ret (pe_d c_added hr (by decide) rfl (pa_cons (pe_d c_filled_but hr (by decide) rfl (pa_cons (pe_fld (pv 0) rfl) (pa_cons (pe_fld (pv 3) rfl) (pa_cons (pv 2) pa_nil)))) (pa_cons (pv 4) pa_nil))))))), ?_⟩
    refine w_start (σ := [some (.ref a), some (.int m), some (.int (s : Nat)), none, none]) rfl ?_
    repeat walk_at "st"
    refine ⟨S.hid, ?_⟩
    repeat walk_at "st"
    refine ⟨a, dx, l, (S.q : Int), rfl, ha, ?_⟩
    repeat walk_at "st"
    refine ⟨by walk_at "len", fun p1 hp1 => ?_⟩
    have e1 := same_new (o := .lst [.int 0]) hp1 (Same.refl H)
    have f1 : upd H p1 (.lst [.int 0]) p1 = some (.lst [.int 0]) := upd_same
    generalize upd H p1 (.lst [.int 0]) = H1 at e1 f1 ⊢
    have ha1 := e1 _ _ ha
    have hl1 := e1 _ _ hl
    repeat walk_at "st"
    refine ⟨p1, _, _, rfl, rfl, f1, by omega, by omega, by show 1 * _ ≤ _; omega, fun p2 hp2 => ?_⟩
    rw [rep_map _ _, show ((s : Int) - 1).toNat = s - 1 by omega]
    have e2 := same_new (o := .lst ((List.replicate (s - 1) (0 : Int)).map V.int)) hp2 (Same.refl H1)
    have f2 : upd H1 p2 (.lst ((List.replicate (s - 1) (0 : Int)).map V.int)) p2 = some (.lst ((List.replicate (s - 1) (0 : Int)).map V.int)) := upd_same
    generalize upd H1 p2 (.lst ((List.replicate (s - 1) (0 : Int)).map V.int)) = H2 at e2 f2 ⊢
    have ha2 := e2 _ _ ha1
    have hl2 := e2 _ _ hl1
    repeat walk_at "st"
    refine ⟨by walk_at "len", fun p3 hp3 => ?_⟩
    have e3 := same_new (o := .lst [.int (m - S.ln)]) hp3 (Same.refl H2)
    have f3 : upd H2 p3 (.lst [.int (m - S.ln)]) p3 = some (.lst ([m - S.ln].map V.int)) := upd_same
    generalize upd H2 p3 (.lst [.int (m - S.ln)]) = H3 at e3 f3 ⊢
    have f23 := e3 _ _ f2
    refine w_catF f23 f3 (by rw [List.length_replicate]; show _ + 1 ≤ _; omega) fun p4 hp4 => ?_
    have e4 := same_new (o := .lst ((List.replicate (s - 1) (0 : Int) ++ [m - S.ln]).map V.int)) hp4 (Same.refl H3)
    have f4 : upd H3 p4 (.lst ((List.replicate (s - 1) (0 : Int) ++ [m - S.ln]).map V.int)) p4 = some (.lst ((List.replicate (s - 1) (0 : Int) ++ [m - S.ln]).map V.int)) := upd_same
    generalize upd H3 p4 (.lst ((List.replicate (s - 1) (0 : Int) ++ [m - S.ln]).map V.int)) = H4 at e4 f4 ⊢
    have eH : Same H H4 := ((e1.trans e2).trans e3).trans e4
    have ha4 := eH _ _ ha
    have hl4 := eH _ _ hl
    repeat walk_at "st"
    refine ⟨S.q, S.ln, s, rfl, q1, q2, s1, by omega, fun p5 H5 hp5 e5 f5 => ?_⟩
    have f45 := e5 _ _ f4
    repeat walk_at "st"
    have fl := fill_len (capB_pos (q := (S.q : Int)) (by omega) s1) _ 1 S.ln (Nat.le_refl _)
    refine ⟨p5, p4, _, _, rfl, f5, f45, by omega, by rw [List.length_append, List.length_replicate]; show _ + 1 ≤ _; omega, fun p6 H6 hp6 e6 f6 => ?_⟩
    exact k p6 H6 (same_free (eH.trans e5) hp6) ((eH.trans e5).trans e6) f6
end

end Pt_most
section Pt_most2
/-! ### levels.py: the least letters of so many codes, the most codes of so many letters -/
theorem fill_short {c : Nat → Int} (hc : ∀ d, 1 ≤ c d) : ∀ (k d : Nat) (l : Int), 1 ≤ k → l ≤ c (d + k - 1) → (fill c d l).length ≤ k
  | k, d, l, h1, h2 => by
    by_cases h : l ≤ 0
    · rw [fill_nil h]
      exact Nat.zero_le _
    · have := hc d
      rw [fill_cons hc (by omega), List.length_cons]
      by_cases h3 : l ≤ c d
      · rw [fill_nil (by omega)]
        exact h1
      · cases k with
        | zero => omega
        | succ k =>
          by_cases hk : k = 0
          · subst hk
            exact absurd h2 (by show ¬ l ≤ c (d + (0 + 1) - 1); rw [show d + (0 + 1) - 1 = d by omega]; exact h3)
          · have := fill_short hc k (d + 1) (l - min (c d) l) (by omega) (by rw [show d + 1 + k - 1 = d + (k + 1) - 1 by omega]; omega)
            omega
theorem fill_le {c : Nat → Int} (hc : ∀ d, 1 ≤ c d) : ∀ (n d : Nat) (l : Int), l.toNat ≤ n → ∀ x ∈ fill c d l, x ≤ l
  | n, d, l, hn => by
    by_cases h : l ≤ 0
    · rw [fill_nil h]
      intro x hx
      cases hx
    · cases n with
      | zero => omega
      | succ n =>
        have := hc d
        rw [fill_cons hc (by omega)]
        intro x hx
        rcases List.mem_cons.mp hx with rfl | hx
        · omega
        · have := fill_le hc n (d + 1) _ (by omega) x hx
          omega
theorem pow_mono {a b : Int} (h0 : 0 ≤ a) (h : a ≤ b) : ∀ n : Nat, a ^ n ≤ b ^ n
  | 0 => by rw [Int.pow_zero, Int.pow_zero]; exact Int.le_refl _
  | n + 1 => by
    rw [Int.pow_succ, Int.pow_succ]
    exact Int.mul_le_mul (pow_mono h0 h n) h h0 (Int.pow_nonneg (by omega))
theorem free_len {S : Sg} (ok : SgOk S) {m : Int} (h : m ≤ 10000000000000000000000000000000) : (fill (freeC S) 1 m).length ≤ 104 := by
  refine fill_short (freeC_pos ok) 104 1 m (by decide) (Int.le_trans h ?_)
  have q1 := ok.q1
  have f := first_pos ok
  show _ ≤ firstO S * (S.q : Int) ^ 103
  have p := pow_mono (a := 2) (b := (S.q : Int)) (by decide) (by omega) 103
  have := Int.mul_le_mul f p (by decide +kernel) (by omega)
  exact Int.le_trans (by decide +kernel) this
theorem short_len {S : Sg} (ok : SgOk S) (hk : S.lk = .short) {m : Int} (h : m ≤ 10000000000000000000000000000000) : (fill (capS (firstO S) S.q S.ln) 1 m).length ≤ 64 := by
  have lim := ok.lim
  rw [hk] at lim
  obtain ⟨n1, n2⟩ : 1 ≤ S.ln ∧ S.ln ≤ 64 := lim
  have q1 := ok.q1
  have f := first_pos ok
  have := fill_short (c := capS (firstO S) S.q S.ln) (capS_pos (by omega) (by omega)) S.ln.toNat 1 m (by omega) (by
    rw [show 1 + S.ln.toNat - 1 = S.ln.toNat by omega]
    unfold capS
    rw [if_pos (by omega)]
    exact Int.le_trans h (by decide +kernel))
  omega
theorem lc_lstQ {K : PySem.W.Frag} {σ : L2.St} {H : Hp} {Q : VK} {ts te : TE} {k : Nat} {vs : List Nat} {xs : List V} (f : V → V) (Po : Addr → Hp → Prop) (hts : ∀ R : VK, (∀ t H1, Po t H1 → R (.ref t) H1) → ts σ H R) (hp : ∀ t H1, Po t H1 → SqL K H1 t xs) (hl : xs.length ≤ sizeLine)
    (hel : ∀ t H0, Po t H0 → ∀ y ∈ xs, ∀ H', Same H0 H' → ∀ R : VK, (∀ H'', Same H' H'' → R (f y) H'') → te ((wipe σ vs).set k (some y)) H' R)
    (q : ∀ t H1 D H', Po t H1 → H1 D = none → Same H1 H' → H' D = some (.lst (xs.map f)) → Q (.ref D) H') (hw : ∀ v, wipe ((wipe σ vs).set k (some v)) vs = wipe σ vs := by intro _; rfl) :
    tLc (iList K ts) (gName k) tYes te vs σ H Q := by
  refine w_lc (hts _ fun t H1 h => ⟨t, rfl, ⟨xs, hp t H1 h⟩, lcI_map f (pureIt_list (hp t H1 h)) hl (fun y hy H' e R hR => hel t H1 h y hy H' e R hR) (fun D H' => q t H1 D H' h) hw⟩)
theorem loose_k {S : Sg} (h : looseB S = true) : S.lk = .standing := by
  unfold looseB at h
  cases hk : S.lk with
  | standing => rfl
  | _ => rw [hk] at h; simp [kEq] at h
theorem add_len (L : List Int) : ∀ M : List Int, (addO L M).length ≤ L.length + M.length := by
  induction L with
  | nil => intro M; cases M <;> simp [addO]
  | cons x L ih =>
    intro M
    cases M with
    | nil => simp [addO]
    | cons y M =>
      have := ih M
      rw [addO, List.length_cons, List.length_cons, List.length_cons]
      omega
theorem spC_len {S : Sg} (ok : SgOk S) (hk : S.lk = .standing) {s : Nat} (hs : 1 ≤ s) (h : s ≤ 5000) (m : Int) : (spC S s m).length ≤ 10000 := by
  have lim := ok.lim
  have q1 := ok.q1
  rw [hk] at lim
  obtain ⟨n1, n2⟩ : 0 ≤ S.ln ∧ S.ln ≤ 4096 := lim
  have l1 := fill_len (capB_pos (q := (S.q : Int)) (by omega) hs) _ 1 S.ln (Nat.le_refl _)
  have l3 := add_len (fill (capB S.q s) 1 S.ln) (List.replicate (s - 1) 0 ++ [m - S.ln])
  rw [List.length_append, List.length_replicate, List.length_singleton] at l3
  unfold spC
  omega
theorem deep_le {S : Sg} (ok : SgOk S) (hk : S.lk = .standing) : deepO S ≤ 105 := by
  have lim := ok.lim
  rw [hk] at lim
  obtain ⟨n1, n2⟩ : 0 ≤ S.ln ∧ S.ln ≤ 4096 := lim
  have := free_len ok (m := S.ln) (by omega)
  unfold deepO
  omega
theorem cnt_len {S : Sg} (ok : SgOk S) {m : Int} (h : m ≤ 10000000000000000000000000000000) : (cntO S m).length ≤ 10000 := by
  have f1 := free_len ok h
  have lim := ok.lim
  unfold cntO
  cases hk : S.lk with
  | free => show (fill (freeC S) 1 m).length ≤ _; omega
  | short => have := short_len ok hk h; show (fill (capS (firstO S) S.q S.ln) 1 m).length ≤ _; omega
  | cleared =>
    rw [hk] at lim
    obtain ⟨n1, n2⟩ : 1 ≤ S.ln ∧ S.ln ≤ 4096 := lim
    show (if S.ln ≤ m then addO ((fill (freeC S) 1 S.ln).map fun x => x * (m / S.ln)) (fill (freeC S) 1 (m % S.ln)) else fill (freeC S) 1 m).length ≤ _
    split
    · have a := free_len ok (m := S.ln) (by omega)
      have b := free_len ok (m := m % S.ln) (by have := Int.emod_lt_of_pos m (show 0 < S.ln by omega); omega)
      have := add_len ((fill (freeC S) 1 S.ln).map fun x => x * (m / S.ln)) (fill (freeC S) 1 (m % S.ln))
      rw [List.length_map] at this
      omega
    · omega
  | standing =>
    show (if m ≤ S.ln then fill (freeC S) 1 m else if S.hid = true then [m] else spC S (spF S m) m).length ≤ _
    split
    · omega
    · split
      · show 1 ≤ _; omega
      · have s1 := fmin_spec (costO S m) (deepO S) (by unfold deepO; omega)
        have := deep_le ok hk
        exact spC_len ok hk s1.1 (by have := s1.2.1; show fminO _ _ ≤ _; omega) m
def spSparedF (K : PySem.W.Frag) : Sp := fun vs H Q _ => ∃ a S m, vs = [.ref a, .int m] ∧ SetAt K H a S ∧ SgOk S ∧ S.lk = .standing ∧ ∀ H', Same H H' → Q (.int (spF S m : Nat)) H'
def spLoose (K : PySem.W.Frag) : Sp := fun vs H Q _ => ∃ a S, vs = [.ref a] ∧ SetAt K H a S ∧ Q (.bl (looseB S)) H
def spCounts (K : PySem.W.Frag) : Sp := fun vs H Q _ => ∃ a S m, vs = [.ref a, .int m] ∧ SetAt K H a S ∧ SgOk S ∧ 0 ≤ m ∧ Big31 m ∧ NewI H Q (cntO S m)
def spLeast (K : PySem.W.Frag) : Sp := fun vs H Q _ => ∃ a S c, vs = [.ref a, .int c] ∧ SetAt K H a S ∧ SgOk S ∧ 0 ≤ c ∧ Big31 c ∧ ∀ H', Same H H' → Q (.int (leastO S c)) H'
def spNeedTold (K : PySem.W.Frag) : Sp := fun vs H Q _ => ∃ a S c, vs = [.ref a, .int c] ∧ SetAt K H a S ∧ (looseB S = true → c ≤ S.ln + 1) ∧ Q .non H
def spNeedToldOf (K : PySem.W.Frag) : Sp := fun vs H Q _ => ∃ a S z, vs = [.ref a, .int z] ∧ SetAt K H a S ∧ SgOk S ∧ (looseB S = true → z ≤ leastO S (S.ln + 1)) ∧ ∀ H', Same H H' → Q .non H'
def spMostOf (K : PySem.W.Frag) : Sp := fun vs H Q _ => ∃ a S z, vs = [.ref a, .int z] ∧ SetAt K H a S ∧ SgOk S ∧ BigI z ∧ ∀ r H', MostR S z r → r ≤ z → Same H H' → Q (.int r) H'
local macro_rules | `(tactic| walk_at "cond") => `(tactic| first | exact two_div | (refine small_mul ?_ ?_ <;> omega) | (refine small_mul' ?_ ?_ <;> omega) | (refine small_div ?_ ?_ <;> omega))
section
variable {P : Program} {w : World} {K : PySem.W.Frag} {mg : Str → Option Value} {base : Heap}
theorem d_spared_for (T : Txt K mg) (F : FD K mg "spared_for" s_spared_for) (c_letters_in : Dn P w K mg base 1 "letters_in" s_letters_in ["counts"] (spLetIn)) (c_spared_counts : Dn P w K mg base 3 "spared_counts" s_spared_counts ["setting", "many", "spared"] (spSparedC K)) (c_filled2 : Fr P w K mg base 2 (He.ga K "filled") ["setting", "many", "deepest"] [.non] (spFilled K)) (c_set_limit : ∀ h : Bool, Fr P w K mg base 1 (gtA K (cSet K h) "limit") ["self"] [] (spSetLimit K h)) : Dn P w K mg base 5 "spared_for" s_spared_for ["setting", "many"] (spSparedF K) := by
  refine dn_of F (fun _ _ _ _ _ _ us hl => match us, hl with | [_, _], _ => rfl) sc_spared_for (fun vs H Q E h => ?_) (fun fa cdv A outer s H vs Q E hr h => ?_)
  · obtain ⟨a, S, m, rfl, _⟩ := h
    rfl
  · obtain ⟨a, S, m, rfl, hS, ok, hk, k⟩ := h
    have sz := sizeLine_eq
    have hS0 := hS
    obtain ⟨dx, l, ha, ⟨dl, hl⟩, q1, q2⟩ := hS
    have lim := ok.lim
    rw [hk] at lim hl
    obtain ⟨n0, n1⟩ : 0 ≤ S.ln ∧ S.ln ≤ 4096 := lim
    have fl := free_len ok (m := S.ln) (by omega)
    refine ⟨_, PSs.nox (pss_cons (ps_set (i := 2) sc_spared_for.nd rfl (Or.inl rfl) (pe_op op_add (pe_callB cl_lenQ (by rfl) T.n_len (by decide +kernel) (pa_cons (pe_f c_filled2 T.gc_filled T.kp_filled hr (by decide) rfl (pa_cons (pv 0) (pa_cons (pe_fld (pe_any fun h => pe_pr (c_set_limit h) (T.cl_set h) (T.pr_limit h) hr (by decide) (pv 0)) rfl) pa_nil))) pa_nil)) pe_int))
 (pss_cons (ps_asg (pe_tup (pa_cons pe_non (pa_cons pe_int pa_nil))) (pg_tup rfl (pgs_cons (pg_name (i := 3) sc_spared_for.nd rfl (Or.inl rfl)) (pgs_cons (pg_name (i := 4) sc_spared_for.nd rfl (Or.inl rfl)) pgs_nil))))
 (pss_cons (ps_for PassesOwn.never rfl (pi_range2 rfl T.n_range (pa_cons pe_int (pa_cons (pe_op op_add (pv 2) pe_int) pa_nil))) (pg_name (i := 5) sc_spared_for.nd rfl (Or.inl rfl))
 (pss_cons (ps_set (i := 6) sc_spared_for.nd rfl (Or.inl rfl) (pe_callTy cl_int1 (by rfl) T.n_int (by decide +kernel) (pa_cons (pe_d c_letters_in hr (by decide) rfl (pa_cons (pe_d c_spared_counts hr (by decide) rfl (pa_cons (pv 0) (pa_cons (pv 1) (pa_cons (pv 5) pa_nil)))) pa_nil)) pa_nil)))
 (pss_one (ps_if (PW.pt (pw_or (pt_cmpR op_isN' (pv 3) pe_non (nomark _)) (pw_or1 (pt_cmpR op_lt (pv 6) (pv 3) (nomark _)))))
 (pss_one (ps_par (i := 3) (j := 4) (by rfl) sc_spared_for.nd rfl rfl (by decide) rfl rfl (pa_cons (pv 6) (pa_cons (pv 5) pa_nil)) (by rfl)))
 pss_nil))))
 (pss_one (ps_ret (pv 4)))))), ?_⟩
    refine w_start (σ := [some (.ref a), some (.int m), none, none, none, none, none]) rfl ?_
    repeat walk_at "st"
    refine ⟨S.hid, ?_⟩
    repeat walk_at "st"
    refine ⟨a, dx, l, (S.q : Int), rfl, ha, ?_⟩
    repeat walk_at "st"
    refine ⟨a, S, S.ln, none, rfl, hS0, by show S.ln ≤ _; omega, by show (fill (freeC S) 1 S.ln).length ≤ _; omega, fun p1 H1 hp1 e1 f1 => ?_⟩
    have f1 : H1 p1 = some (.lst ((fill (freeC S) 1 S.ln).map V.int)) := f1
    repeat walk_at "st"
    rw [List.length_map]
    refine ⟨by walk_at "len", fun tp htp => ?_⟩
    have e2 := same_new (o := .tup [.non, .int 1]) htp (Same.refl H1)
    have f2 : upd H1 tp (.tup [.non, .int 1]) tp = some (.tup [.non, .int 1]) := upd_same
    generalize upd H1 tp (.tup [.non, .int 1]) = H2 at e2 f2 ⊢
    repeat walk_at "st"
    with_reducible refine w_seq ?_
    repeat walk_at "st"
    have dl' : deepO S = (fill (freeC S) 1 S.ln).length + 1 := rfl
    refine w_rng2 (by omega) ?_
    have eH := e1.trans e2
    refine L2.for_range (fun i σ' H' => ∃ o5 o6, σ' = [some (.ref a), some (.int m), some (.int ((fill (freeC S) 1 S.ln).length + 1)), some (if i = 0 then V.non else .int (costO S m (fminO (costO S m) i))), some (.int (fminO (costO S m) i : Nat)), o5, o6] ∧ Same H H') ⟨none, none, rfl, eH⟩ ?_ ?_
    · rintro i σ' H' hi ⟨o5, o6, rfl, e⟩
      repeat walk_at "st"
      have h4 : i < (fill (freeC S) 1 S.ln).length + 1 := by omega
      rw [show (1 + (i : Int)) = ((i + 1 : Nat) : Int) by omega]
      refine ⟨a, S, m, i + 1, rfl, hS0.same e, ok, hk, by omega, by omega, fun p3 H3 hp3 e3 f3 => ?_⟩
      have ln3 := spC_len ok hk (show 1 ≤ i + 1 by omega) (by omega) m
      repeat walk_at "st"
      refine ⟨p3, _, rfl, f3, ln3, fun H4 e4 => ?_⟩
      have e5 := (e.trans e3).trans e4
      repeat walk_at "st"
      rw [show letO 1 (spC S (i + 1) m) = costO S m (i + 1) from rfl]
      by_cases i0 : i = 0
      · subst i0
        repeat walk_at "st"
        exact ⟨_, _, rfl, e5⟩
      · rw [if_neg i0, if_neg (show ¬ i + 1 = 0 by omega), fminO, if_neg i0]
        repeat walk_at "st"
        refine w_ite (fun h5 => ?_) (fun h5 => ?_)
        · rw [if_pos h5]
          repeat walk_at "st"
          exact ⟨_, _, rfl, e5⟩
        · rw [if_neg h5]
          repeat walk_at "st"
          exact ⟨_, _, rfl, e5⟩
    · rintro σ' H' ⟨o5, o6, rfl, e⟩
      repeat walk_at "st"
      rw [show (((fill (freeC S) 1 S.ln).length : Int) + 1 + 1 - 1).toNat = deepO S by rw [dl']; omega]
      exact k H' e
theorem d_is_loose (T : Txt K mg) (F : FD K mg "is_loose" s_is_loose) (c_first_level : Dn P w K mg base 1 "first_level" s_first_level ["setting"] (spFirst K)) (c_set_limit : ∀ h : Bool, Fr P w K mg base 1 (gtA K (cSet K h) "limit") ["self"] [] (spSetLimit K h)) : Dn P w K mg base 3 "is_loose" s_is_loose ["setting"] (spLoose K) := by
  refine dn_of F (fun _ _ _ _ _ _ us hl => match us, hl with | [_], _ => rfl) sc_is_loose (fun vs H Q E h => ?_) (fun fa cdv A outer s H vs Q E hr h => ?_)
  · obtain ⟨a, S, rfl, _⟩ := h
    rfl
  · obtain ⟨a, S, rfl, hS, k⟩ := h
    have hS0 := hS
    obtain ⟨dx, l, ha, ⟨dl, hl⟩, q1, q2⟩ := hS
    obtain ⟨lk, elk⟩ : ∃ x, x = S.lk := ⟨_, rfl⟩
    have lo : looseB S = (S.hid && (kEq lk .standing && decide (firstO S ≤ S.ln))) := by rw [elk]; rfl
    rw [lo] at k
    rw [← elk] at hl
    refine ⟨_, PSs.nox (pss_cons (ps_if (PW.pt (pw_or (pt_not (pt_val (pe_callB call_isi (by rfl) T.n_isinstance (by decide +kernel) (pa_cons (pv 0) (pa_cons (pe_gc rfl (T.gc_Hidden)) pa_nil))) (by intro _; rfl))) (pw_or1 (pt_not (pt_val (pe_callB call_isi (by rfl) T.n_isinstance (by decide +kernel) (pa_cons (pe_any fun h => pe_pr (c_set_limit h) (T.cl_set h) (T.pr_limit h) hr (by decide) (pv 0)) (pa_cons (pe_gc rfl (T.gc_lim .standing)) pa_nil))) (by intro _; rfl))))))
 (pss_one (ps_ret pe_bl))
 pss_nil)
 (pss_one (ps_ret (pe_cmpR op_ge (pe_fld (pe_any fun h => pe_pr (c_set_limit h) (T.cl_set h) (T.pr_limit h) hr (by decide) (pv 0)) rfl) (pe_d c_first_level hr (by decide) rfl (pa_cons (pv 0) pa_nil)) (nomark _))))), ?_⟩
    refine w_start (σ := [some (.ref a)]) rfl ?_
    with_reducible refine w_seq ?_
    repeat walk_at "st"
    refine w_isaB ha (T.cl_set _) (T.isa_hid _) ?_
    repeat walk_at "st"
    cases eh : S.hid with
    | false =>
      rw [eh] at k
      repeat walk_at "st"
      exact k
    | true =>
      repeat walk_at "st"
      refine ⟨S.hid, ?_⟩
      repeat walk_at "st"
      refine ⟨a, dx, l, (S.q : Int), rfl, ha, ?_⟩
      repeat walk_at "st"
      refine w_isaB hl (T.cl_lim lk) (T.isa_k lk .standing) ?_
      rw [eh] at k
      cases lk with
      | free =>
        repeat walk_at "st"
        exact k
      | short =>
        repeat walk_at "st"
        exact k
      | cleared =>
        repeat walk_at "st"
        exact k
      | standing =>
        repeat walk_at "st"
        refine ⟨S.hid, ?_⟩
        repeat walk_at "st"
        refine ⟨a, dx, l, (S.q : Int), rfl, ha, ?_⟩
        repeat walk_at "st"
        refine ⟨a, S, rfl, hS0, ?_⟩
        repeat walk_at "st"
        exact k
theorem d_counts_for (T : Txt K mg) (F : FD K mg "counts_for" s_counts_for) (c_spared_counts : Dn P w K mg base 3 "spared_counts" s_spared_counts ["setting", "many", "spared"] (spSparedC K)) (c_added : Dn P w K mg base 1 "added" s_added ["counts", "others"] (spAdded)) (c_spared_for : Dn P w K mg base 5 "spared_for" s_spared_for ["setting", "many"] (spSparedF K)) (c_set_limit : ∀ h : Bool, Fr P w K mg base 1 (gtA K (cSet K h) "limit") ["self"] [] (spSetLimit K h)) (c_filled2 : Fr P w K mg base 2 (He.ga K "filled") ["setting", "many", "deepest"] [.non] (spFilled K)) (c_filled3 : Fr P w K mg base 2 (He.ga K "filled") ["setting", "many", "deepest"] [] (spFilled K)) : Dn P w K mg base 7 "counts_for" s_counts_for ["setting", "many"] (spCounts K) := by
  refine dn_of F (fun _ _ _ _ _ _ us hl => match us, hl with | [_, _], _ => rfl) sc_counts_for (fun vs H Q E h => ?_) (fun fa cdv A outer s H vs Q E hr h => ?_)
  · obtain ⟨a, S, m, rfl, _⟩ := h
    rfl
  · obtain ⟨a, S, m, rfl, hS, ok, m0, hm, k⟩ := h
    have hm : m ≤ 10000000000000000000000000000000 := hm
    have sz := sizeLine_eq
    have hS0 := hS
    obtain ⟨dx, l, ha, ⟨dl, hl⟩, q1, q2⟩ := hS
    have lim := ok.lim
    have ffl := free_len ok hm
    refine ⟨_, PSs.nox (pss_cons (ps_set (i := 2) sc_counts_for.nd rfl (Or.inr rfl) (pe_any fun h => pe_pr (c_set_limit h) (T.cl_set h) (T.pr_limit h) hr (by decide) (pv 0)))
 (pss_cons (ps_if (pt_val (pe_callB call_isi (by rfl) T.n_isinstance (by decide +kernel) (pa_cons (pv 2) (pa_cons (pe_gc rfl (T.gc_lim .short)) pa_nil))) (by intro _; rfl))
 (pss_one (ps_ret (pe_f c_filled3 T.gc_filled T.kp_filled hr (by decide) rfl (pa_cons (pv 0) (pa_cons (pv 1) (pa_cons (pe_fld (pv 2) rfl) pa_nil))))))
 pss_nil)
 (pss_cons (ps_if (pt_val (pe_callB call_isi (by rfl) T.n_isinstance (by decide +kernel) (pa_cons (pv 2) (pa_cons (pe_gc rfl (T.gc_lim .cleared)) pa_nil))) (by intro _; rfl))
 (pss_cons (ps_setLc (i := 3) (own := [("number", 5)]) (tt := tYes) (g := gName 5) rfl sc_counts_for.nd rfl rfl (sw_true rfl rfl rfl (by decide +kernel)) (pi_list (pe_f c_filled2 T.gc_filled T.kp_filled hr (by decide) rfl (pa_cons (pv 0) (pa_cons (pe_fld (pv 2) rfl) pa_nil)))) (blkOk_by (N := ["setting", "many", "limit", "whole", "found", "number"]) (sc := defScope s_counts_for) (by decide +kernel)) (fun _ _ _ _ _ => (pg_name (i := 5) sc_counts_for.nd rfl (Or.inl rfl))) (fun _ _ _ _ _ => pts_nil) (fun _ _ _ _ _ => (pe_op op_mulA (pv 5) (pe_op op_fdivW (pv 1) (pe_fldK (K := K) rfl (pv 2) rfl)))))
 (pss_cons (ps_set (i := 4) sc_counts_for.nd rfl (Or.inl rfl) (pe_d c_added hr (by decide) rfl (pa_cons (pv 3) (pa_cons (pe_f c_filled2 T.gc_filled T.kp_filled hr (by decide) rfl (pa_cons (pv 0) (pa_cons (pe_op op_mod (pv 1) (pe_fld (pv 2) rfl)) pa_nil))) pa_nil))))
 (pss_one (ps_ret (pe_ifExp (pt_cmpR op_ge (pv 1) (pe_fld (pv 2) rfl) (nomark _)) (pv 4) (pe_f c_filled2 T.gc_filled T.kp_filled hr (by decide) rfl (pa_cons (pv 0) (pa_cons (pv 1) pa_nil))))))))
 pss_nil)
 (pss_cons (ps_if (PW.pt (pw_or (pt_not (pt_val (pe_callB call_isi (by rfl) T.n_isinstance (by decide +kernel) (pa_cons (pv 2) (pa_cons (pe_gc rfl (T.gc_lim .standing)) pa_nil))) (by intro _; rfl))) (pw_or1 (pt_cmpR op_le (pv 1) (pe_fld (pv 2) rfl) (nomark _)))))
 (pss_one (ps_ret (pe_f c_filled2 T.gc_filled T.kp_filled hr (by decide) rfl (pa_cons (pv 0) (pa_cons (pv 1) pa_nil)))))
 pss_nil)
 (pss_cons (ps_if (pt_val (pe_callB call_isi (by rfl) T.n_isinstance (by decide +kernel) (pa_cons (pv 0) (pa_cons (pe_gc rfl (T.gc_Hidden)) pa_nil))) (by intro _; rfl))
 (pss_one (ps_ret (pe_lst (pa_cons (pv 1) pa_nil))))
 pss_nil)
 (pss_one (ps_ret (pe_d c_spared_counts hr (by decide) rfl (pa_cons (pv 0) (pa_cons (pv 1) (pa_cons (pe_d c_spared_for hr (by decide) rfl (pa_cons (pv 0) (pa_cons (pv 1) pa_nil))) pa_nil))))))))))), ?_⟩
    refine w_start (σ := [some (.ref a), some (.int m), none, none, none, none]) rfl ?_
    repeat walk_at "st"
    refine ⟨S.hid, ?_⟩
    repeat walk_at "st"
    refine ⟨a, dx, l, (S.q : Int), rfl, ha, ?_⟩
    repeat walk_at "st"
    with_reducible refine w_seq ?_
    repeat walk_at "st"
    refine w_isaB hl (T.cl_lim _) (T.isa_k _ .short) ?_
    unfold cntO at k
    cases hk : S.lk with
    | short =>
      have cl := short_len ok hk hm
      rw [hk] at lim hl k
      obtain ⟨n1, n2⟩ : 1 ≤ S.ln ∧ S.ln ≤ 64 := lim
      repeat walk_at "st"
      refine ⟨a, S, m, some S.ln, rfl, hS0, hm, by show (fill (capS (firstO S) S.q S.ln) 1 m).length ≤ _; omega, fun p1 H1 hp1 e1 f1 => ?_⟩
      exact k p1 H1 hp1 e1 f1
    | free =>
      rw [hk] at lim hl k
      repeat walk_at "st"
      with_reducible refine w_seq ?_
      repeat walk_at "st"
      refine w_isaB hl (T.cl_lim _) (T.isa_k _ .cleared) ?_
      repeat walk_at "st"
      with_reducible refine w_seq ?_
      repeat walk_at "st"
      refine w_isaB hl (T.cl_lim _) (T.isa_k _ .standing) ?_
      repeat walk_at "st"
      refine ⟨a, S, m, none, rfl, hS0, hm, by show (fill (freeC S) 1 m).length ≤ _; omega, fun p1 H1 hp1 e1 f1 => ?_⟩
      exact k p1 H1 hp1 e1 f1
    | cleared =>
      rw [hk] at lim hl k
      obtain ⟨n1, n2⟩ : 1 ≤ S.ln ∧ S.ln ≤ 4096 := lim
      have nfl := free_len ok (m := S.ln) (by omega)
      have k : NewI H Q (if S.ln ≤ m then addO ((fill (freeC S) 1 S.ln).map fun x => x * (m / S.ln)) (fill (freeC S) 1 (m % S.ln)) else fill (freeC S) 1 m) := k
      repeat walk_at "st"
      with_reducible refine w_seq ?_
      repeat walk_at "st"
      refine w_isaB hl (T.cl_lim _) (T.isa_k _ .cleared) ?_
      repeat walk_at "st"
      refine lc_lstQ (xs := (fill (freeC S) 1 S.ln).map V.int) (fun v => match v with | .int x => .int (x * (m / S.ln)) | v => v) (fun t H1 => Same H H1 ∧ H1 t = some (.lst ((fill (freeC S) 1 S.ln).map V.int))) (fun R hR => ?_) (fun t H1 h => SqL.of h.2) (by rw [List.length_map]; omega) (fun t H1 h y hy H' e R hR => ?_) fun t H1 D H2 h1 hD e2 f2 => ?_
      · repeat walk_at "st"
        refine ⟨a, S, S.ln, none, rfl, hS0, by show S.ln ≤ _; omega, by show (fill (freeC S) 1 S.ln).length ≤ _; omega, fun p1 H1 hp1 e1 f1 => ?_⟩
        exact hR p1 H1 ⟨e1, f1⟩
      · obtain ⟨x, hx, rfl⟩ := List.mem_map.mp hy
        have x1 := fill_pos (freeC_pos ok) _ 1 S.ln (Nat.le_refl _) x hx
        have x2 := fill_le (freeC_pos ok) _ 1 S.ln (Nat.le_refl _) x hx
        have hl' := (h.1.trans e) _ _ hl
        simp only [wipe, List.map, List.set]
        repeat walk_at "st"
        exact hR H' (Same.refl _)
      have e12 := h1.1.trans e2
      have ha2 := e12 _ _ ha
      have hl2 := e12 _ _ hl
      rw [List.map_map] at f2
      have f2 : H2 D = some (.lst (((fill (freeC S) 1 S.ln).map fun x => x * (m / S.ln)).map V.int)) := by rw [f2, List.map_map]; rfl
      repeat walk_at "st"
      have r0 := Int.emod_nonneg m (show S.ln ≠ 0 by omega)
      have r1 := Int.emod_lt_of_pos m (show 0 < S.ln by omega)
      have rfl' := free_len ok (m := m % S.ln) (by omega)
      refine ⟨a, S, m % S.ln, none, rfl, hS0.same e12, by show m % S.ln ≤ _; omega, by show (fill (freeC S) 1 (m % S.ln)).length ≤ _; omega, fun p3 H3 hp3 e3 f3 => ?_⟩
      have f23 := e3 _ _ f2
      repeat walk_at "st"
      refine ⟨D, p3, _, _, rfl, f23, f3, by rw [List.length_map]; omega, by show (fill (freeC S) 1 (m % S.ln)).length ≤ _; omega, fun p4 H4 hp4 e4 f4 => ?_⟩
      have e14 := (e12.trans e3).trans e4
      have ha4 := e14 _ _ ha
      have hl4 := e14 _ _ hl
      repeat walk_at "st"
      refine w_ite (fun h5 => ?_) (fun h5 => ?_)
      · rw [if_pos h5] at k
        repeat walk_at "st"
        exact k p4 H4 (same_free (e12.trans e3) hp4) e14 f4
      · rw [if_neg h5] at k
        repeat walk_at "st"
        refine ⟨a, S, m, none, rfl, hS0.same e14, hm, by show (fill (freeC S) 1 m).length ≤ _; omega, fun p5 H5 hp5 e5 f5 => ?_⟩
        exact k p5 H5 (same_free e14 hp5) (e14.trans e5) f5
    | standing =>
      rw [hk] at lim hl k
      obtain ⟨n1, n2⟩ : 0 ≤ S.ln ∧ S.ln ≤ 4096 := lim
      have k : NewI H Q (if m ≤ S.ln then fill (freeC S) 1 m else if S.hid = true then [m] else spC S (spF S m) m) := k
      repeat walk_at "st"
      with_reducible refine w_seq ?_
      repeat walk_at "st"
      refine w_isaB hl (T.cl_lim _) (T.isa_k _ .cleared) ?_
      repeat walk_at "st"
      with_reducible refine w_seq ?_
      repeat walk_at "st"
      refine w_isaB hl (T.cl_lim _) (T.isa_k _ .standing) ?_
      repeat walk_at "st"
      refine w_ite (fun h5 => ?_) (fun h5 => ?_)
      · rw [if_pos h5] at k
        repeat walk_at "st"
        refine ⟨a, S, m, none, rfl, hS0, hm, by show (fill (freeC S) 1 m).length ≤ _; omega, fun p5 H5 hp5 e5 f5 => ?_⟩
        exact k p5 H5 hp5 e5 f5
      · rw [if_neg h5] at k
        repeat walk_at "st"
        with_reducible refine w_seq ?_
        repeat walk_at "st"
        refine w_isaB ha (T.cl_set _) (T.isa_hid _) ?_
        repeat walk_at "st"
        cases eh : S.hid with
        | true =>
          rw [eh, if_pos rfl] at k
          repeat walk_at "st"
          refine ⟨by walk_at "len", fun p1 hp1 => ?_⟩
          exact k p1 _ hp1 (same_new hp1 (Same.refl H)) upd_same
        | false =>
          rw [eh, if_neg Bool.false_ne_true] at k
          repeat walk_at "st"
          refine ⟨a, S, m, rfl, hS0, ok, hk, fun H1 e1 => ?_⟩
          have s1 := (fmin_spec (costO S m) (deepO S) (by unfold deepO; omega))
          have nfl := free_len ok (m := S.ln) (by omega)
          have dl' : deepO S = (fill (freeC S) 1 S.ln).length + 1 := rfl
          repeat walk_at "st"
          refine ⟨a, S, m, spF S m, rfl, hS0.same e1, ok, hk, s1.1, by have := s1.2.1; show fminO _ _ ≤ _; omega, fun p2 H2 hp2 e2 f2 => ?_⟩
          exact k p2 H2 (same_free e1 hp2) (e1.trans e2) f2
theorem d_least_of (T : Txt K mg) (F : FD K mg "least_of" s_least_of) (c_letters_in : Dn P w K mg base 1 "letters_in" s_letters_in ["counts"] (spLetIn)) (c_counts_for : Dn P w K mg base 7 "counts_for" s_counts_for ["setting", "many"] (spCounts K)) : Dn P w K mg base 8 "least_of" s_least_of ["setting", "codes"] (spLeast K) := by
  refine dn_of F (fun _ _ _ _ _ _ us hl => match us, hl with | [_, _], _ => rfl) sc_least_of (fun vs H Q E h => ?_) (fun fa cdv A outer s H vs Q E hr h => ?_)
  · obtain ⟨a, S, c, rfl, _⟩ := h
    rfl
  · obtain ⟨a, S, c, rfl, hS, ok, c0, hc, k⟩ := h
    have hc : c ≤ 10000000000000000000000000000000 := hc
    refine ⟨_, PSs.nox (pss_one (ps_ret (pe_ifExp (pt_cmpR op_eq (pv 1) pe_int (nomark _)) pe_int (pe_op op_add (pe_d c_letters_in hr (by decide) rfl (pa_cons (pe_d c_counts_for hr (by decide) rfl (pa_cons (pv 0) (pa_cons (pe_op op_sub (pv 1) pe_int) pa_nil))) pa_nil)) pe_int)))), ?_⟩
    refine w_start (σ := [some (.ref a), some (.int c)]) rfl ?_
    repeat walk_at "st"
    by_cases h0 : c = 0
    · subst h0
      rw [show leastO S 0 = 0 from rfl] at k
      repeat walk_at "st"
      exact k H (Same.refl H)
    · have e0 : leastO S c = lenO S (c - 1) + 1 := if_neg h0
      rw [e0] at k
      refine w_iteF (decide_eq_false fun y => h0 (by injection y)) ?_
      repeat walk_at "st"
      refine ⟨a, S, c - 1, rfl, hS, ok, by omega, by show c - 1 ≤ _; omega, fun p1 H1 hp1 e1 f1 => ?_⟩
      repeat walk_at "st"
      refine ⟨p1, _, rfl, f1, cnt_len ok (by omega), fun H2 e2 => ?_⟩
      repeat walk_at "st"
      exact k H2 (e1.trans e2)
theorem d_need_told (T : Txt K mg) (F : FD K mg "need_told" s_need_told) (c_is_loose : Dn P w K mg base 3 "is_loose" s_is_loose ["setting"] (spLoose K)) (c_set_limit : ∀ h : Bool, Fr P w K mg base 1 (gtA K (cSet K h) "limit") ["self"] [] (spSetLimit K h)) : Dn P w K mg base 5 "need_told" s_need_told ["setting", "codes"] (spNeedTold K) := by
  refine dn_of F (fun _ _ _ _ _ _ us hl => match us, hl with | [_, _], _ => rfl) sc_need_told (fun vs H Q E h => ?_) (fun fa cdv A outer s H vs Q E hr h => ?_)
  · obtain ⟨a, S, c, rfl, _⟩ := h
    rfl
  · obtain ⟨a, S, c, rfl, hS, hc, k⟩ := h
    have hS0 := hS
    obtain ⟨dx, l, ha, ⟨dl, hl⟩, q1, q2⟩ := hS
    refine ⟨_, PSs.nox (pss_one (ps_if (PW.pt (pw_and (pt_val (pe_d c_is_loose hr (by decide) rfl (pa_cons (pv 0) pa_nil)) (by intro _; rfl)) (pw_and1 (pt_cmpR op_gt (pv 1) (pe_op op_add (pe_fld (pe_any fun h => pe_pr (c_set_limit h) (T.cl_set h) (T.pr_limit h) hr (by decide) (pv 0)) rfl) pe_int) (nomark _)))))
 (pss_one ps_never)
 pss_nil)), ?_⟩
    refine w_start (σ := [some (.ref a), some (.int c)]) rfl ?_
    repeat walk_at "st"
    refine ⟨a, S, rfl, hS0, ?_⟩
    cases el : looseB S with
    | false =>
      repeat walk_at "st"
      exact k
    | true =>
      have hk := loose_k el
      rw [hk] at hl
      have := hc el
      repeat walk_at "st"
      refine ⟨S.hid, ?_⟩
      repeat walk_at "st"
      refine ⟨a, dx, l, (S.q : Int), rfl, ha, ?_⟩
      repeat walk_at "st"
      refine w_iteF (decide_eq_false (by omega)) ?_
      repeat walk_at "st"
      exact k
theorem d_need_told_of (T : Txt K mg) (F : FD K mg "need_told_of" s_need_told_of) (c_is_loose : Dn P w K mg base 3 "is_loose" s_is_loose ["setting"] (spLoose K)) (c_least_of : Dn P w K mg base 8 "least_of" s_least_of ["setting", "codes"] (spLeast K)) (c_set_limit : ∀ h : Bool, Fr P w K mg base 1 (gtA K (cSet K h) "limit") ["self"] [] (spSetLimit K h)) : Dn P w K mg base 10 "need_told_of" s_need_told_of ["setting", "size"] (spNeedToldOf K) := by
  refine dn_of F (fun _ _ _ _ _ _ us hl => match us, hl with | [_, _], _ => rfl) sc_need_told_of (fun vs H Q E h => ?_) (fun fa cdv A outer s H vs Q E hr h => ?_)
  · obtain ⟨a, S, z, rfl, _⟩ := h
    rfl
  · obtain ⟨a, S, z, rfl, hS, ok, hz, k⟩ := h
    have hS0 := hS
    obtain ⟨dx, l, ha, ⟨dl, hl⟩, q1, q2⟩ := hS
    refine ⟨_, PSs.nox (pss_one (ps_if (PW.pt (pw_and (pt_val (pe_d c_is_loose hr (by decide) rfl (pa_cons (pv 0) pa_nil)) (by intro _; rfl)) (pw_and1 (pt_cmpR op_gt (pv 1) (pe_d c_least_of hr (by decide) rfl (pa_cons (pv 0) (pa_cons (pe_op op_add (pe_fld (pe_any fun h => pe_pr (c_set_limit h) (T.cl_set h) (T.pr_limit h) hr (by decide) (pv 0)) rfl) pe_int) pa_nil))) (nomark _)))))
 (pss_one ps_never)
 pss_nil)), ?_⟩
    refine w_start (σ := [some (.ref a), some (.int z)]) rfl ?_
    repeat walk_at "st"
    refine ⟨a, S, rfl, hS0, ?_⟩
    cases el : looseB S with
    | false =>
      repeat walk_at "st"
      exact k H (Same.refl H)
    | true =>
      have hk := loose_k el
      have lim := ok.lim
      rw [hk] at hl lim
      obtain ⟨n1, n2⟩ : 0 ≤ S.ln ∧ S.ln ≤ 4096 := lim
      have := hz el
      repeat walk_at "st"
      refine ⟨S.hid, ?_⟩
      repeat walk_at "st"
      refine ⟨a, dx, l, (S.q : Int), rfl, ha, ?_⟩
      repeat walk_at "st"
      refine ⟨a, S, S.ln + 1, rfl, hS0, ok, by omega, by show S.ln + 1 ≤ _; omega, fun H1 e1 => ?_⟩
      repeat walk_at "st"
      refine w_iteF (decide_eq_false (by omega)) ?_
      repeat walk_at "st"
      exact k H1 e1
theorem d_most_of (T : Txt K mg) (F : FD K mg "most_of" s_most_of) (c_is_loose : Dn P w K mg base 3 "is_loose" s_is_loose ["setting"] (spLoose K)) (c_least_of : Dn P w K mg base 8 "least_of" s_least_of ["setting", "codes"] (spLeast K)) (c_set_limit : ∀ h : Bool, Fr P w K mg base 1 (gtA K (cSet K h) "limit") ["self"] [] (spSetLimit K h)) : Dn P w K mg base 10 "most_of" s_most_of ["setting", "size"] (spMostOf K) := by
  refine dn_of F (fun _ _ _ _ _ _ us hl => match us, hl with | [_, _], _ => rfl) sc_most_of (fun vs H Q E h => ?_) (fun fa cdv A outer s H vs Q E hr h => ?_)
  · obtain ⟨a, S, z, rfl, _⟩ := h
    rfl
  · obtain ⟨a, S, z, rfl, hS, ok, hz, k⟩ := h
    have hS0 := hS
    obtain ⟨dx, l, ha, ⟨dl, hl⟩, q1, q2⟩ := hS
    refine ⟨_, PSs.nox (pss_cons (ps_par (i := 2) (j := 3) (by rfl) sc_most_of.nd rfl rfl (by decide) rfl rfl (pa_cons pe_int (pa_cons (pe_ifExp (pt_val (pe_d c_is_loose hr (by decide) rfl (pa_cons (pv 0) pa_nil)) (by intro _; rfl)) (pe_callB (call_min2 rfl) (by rfl) T.n_min (by decide +kernel) (pa_cons (pe_callTy cl_int1 (by rfl) T.n_int (by decide +kernel) (pa_cons (pv 1) pa_nil)) (pa_cons (pe_callTy cl_int1 (by rfl) T.n_int (by decide +kernel) (pa_cons (pe_op op_add (pe_fld (pe_any fun h => pe_pr (c_set_limit h) (T.cl_set h) (T.pr_limit h) hr (by decide) (pv 0)) rfl) pe_int) pa_nil)) pa_nil))) (pv 1)) pa_nil)) (by rfl))
 (pss_cons (ps_while PassesOwn.never (pt_cmpR op_lt (pv 2) (pv 3) (nomark _))
 (pss_cons (ps_set (i := 4) sc_most_of.nd rfl (Or.inl rfl) (pe_op op_fdivW (pe_op op_add (pe_op op_add (pv 2) (pv 3)) pe_int) pe_int))
 (pss_one (ps_if (pt_cmpR op_le (pe_d c_least_of hr (by decide) rfl (pa_cons (pv 0) (pa_cons (pv 4) pa_nil))) (pv 1) (nomark _))
 (pss_one (ps_set (i := 2) sc_most_of.nd rfl (Or.inl rfl) (pv 4)))
 (pss_one (ps_set (i := 3) sc_most_of.nd rfl (Or.inl rfl) (pe_op op_sub (pv 4) pe_int)))))))
 (pss_one (ps_ret (pv 2))))), ?_⟩
    refine w_start (σ := [some (.ref a), some (.int z), none, none, none]) rfl ?_
    repeat walk_at "st"
    refine ⟨a, S, rfl, hS0, ?_⟩
    have hz0 := hz.1
    have hz1 := hz.2
    cases el : looseB S
    case' false =>
      repeat walk_at "st"
      obtain ⟨hi, ehi⟩ : ∃ hi, hi = z := ⟨_, rfl⟩
      have b0 : 0 ≤ hi ∧ hi ≤ z ∧ (looseB S = true → hi ≤ S.ln + 1) ∧ ∀ c, hi < c → (looseB S = true → c ≤ S.ln + 1) → z < leastO S c :=
        ⟨by omega, by omega, fun y => (by rw [el] at y; cases y), fun c h1 h2 => by have := least_ge ok (c := c) (by omega) h2; omega⟩
      rw [show some (V.int z) :: [some (V.int 0), some (V.int z), none] = [some (V.int z), some (V.int 0), some (V.int hi), none] by rw [ehi]]
    case' true =>
      have hk := loose_k el
      have lim := ok.lim
      rw [hk] at hl lim
      obtain ⟨n1, n2⟩ : 0 ≤ S.ln ∧ S.ln ≤ 4096 := lim
      repeat walk_at "st"
      refine ⟨S.hid, ?_⟩
      repeat walk_at "st"
      refine ⟨a, dx, l, (S.q : Int), rfl, ha, ?_⟩
      repeat walk_at "st"
      refine ⟨_, _, rfl, ?_⟩
      repeat walk_at "st"
      obtain ⟨hi, ehi⟩ : ∃ hi, hi = (if S.ln + 1 < z then S.ln + 1 else z) := ⟨_, rfl⟩
      have b0 : 0 ≤ hi ∧ hi ≤ z ∧ (looseB S = true → hi ≤ S.ln + 1) ∧ ∀ c, hi < c → (looseB S = true → c ≤ S.ln + 1) → z < leastO S c := by
        refine ⟨?_, ?_, fun _ => ?_, fun c h1 h2 => ?_⟩
        · rw [ehi]; split <;> omega
        · rw [ehi]; split <;> omega
        · rw [ehi]; split <;> omega
        · have e1 := h2 el
          have := least_ge ok (c := c) (by omega) h2
          have : z < c := by rw [ehi] at h1; split at h1 <;> omega
          omega
      rw [← ehi]
    all_goals
      clear ehi
      obtain ⟨b1, b2, b3, b4⟩ := b0
      with_reducible refine w_seq ?_
      refine ⟨fun t σ' H' => ∃ (lo hi : Int) (o : Option V), σ' = [some (.ref a), some (.int z), some (.int lo), some (.int hi), o] ∧ t = (hi - lo).toNat ∧ Same H H' ∧ 0 ≤ lo ∧ lo ≤ hi ∧ hi ≤ z ∧ (looseB S = true → hi ≤ S.ln + 1) ∧ leastO S lo ≤ z ∧ ∀ c, hi < c → (looseB S = true → c ≤ S.ln + 1) → z < leastO S c,
        ⟨_, 0, hi, none, rfl, rfl, Same.refl H, Int.le_refl _, b1, b2, b3, by rw [least_zero]; exact hz0, b4⟩, ?_⟩
      rintro t σ' H' ⟨lo, hi, o, rfl, rfl, e, l0, lh, hz, hlo, hle, hgt⟩
      repeat walk_at "st"
      refine w_ite (fun h1 => ?_) (fun h1 => ?_)
      · refine ⟨_, fun σ' H' h => h, ?_⟩
        repeat walk_at "st"
        have em : lo < (lo + hi + 1) / 2 ∧ (lo + hi + 1) / 2 ≤ hi := by omega
        obtain ⟨mid, hmid⟩ : ∃ x, x = (lo + hi + 1) / 2 := ⟨_, rfl⟩
        rw [← hmid] at em ⊢
        refine ⟨a, S, mid, rfl, hS0.same e, ok, by omega, by show mid ≤ _; omega, fun H1 e1 => ?_⟩
        repeat walk_at "st"
        refine w_ite (fun h2 => ?_) (fun h2 => ?_)
        · repeat walk_at "st"
          exact ⟨_, by omega, mid, hi, _, rfl, rfl, e.trans e1, by omega, by omega, hz, hlo, h2, hgt⟩
        · repeat walk_at "st"
          refine ⟨_, by omega, lo, mid - 1, _, rfl, rfl, e.trans e1, l0, by omega, by omega, fun y => by have := hlo y; omega, hle, fun c c1 c2 => ?_⟩
          have := least_mono ok (a := mid) (b := c) (by omega) (by omega) c2
          omega
      · repeat walk_at "st"
        have e1 : lo = hi := by omega
        subst e1
        exact k lo H' ⟨l0, hlo, hle, hgt⟩ hz e
end

end Pt_most2
section Pt_most3
/-! ### Most -/
abbrev cMst (K : PySem.W.Frag) : Addr := He.ga K "Most"
def MstAt (K : PySem.W.Frag) (H : Hp) (x : Addr) (S : Sg) : Prop := ∃ dx a, H x = some (.ins (cMst K) dx [("setting", .ref a)]) ∧ SetAt K H a S
theorem MstAt.same {K : PySem.W.Frag} {H H' : Hp} {x : Addr} {S : Sg} (e : Same H H') (h : MstAt K H x S) : MstAt K H' x S := let ⟨dx, a, h, h2⟩ := h; ⟨dx, a, e _ _ h, h2.same e⟩
def TellsM (S : Sg) (z : Int) : Prop := looseB S = true → z ≤ leastO S (S.ln + 1)
def TellsC (S : Sg) (c : Int) : Prop := looseB S = true → c ≤ S.ln + 1
def spMostInit (K : PySem.W.Frag) : Sp := fun vs H Q _ => ∃ x dx a S, vs = [.ref x, .ref a] ∧ H x = some (.ins (cMst K) dx []) ∧ SetAt K H a S ∧ Q .non (upd H x (.ins (cMst K) dx [("setting", .ref a)]))
def spToldM (K : PySem.W.Frag) : Sp := fun vs H Q _ => ∃ a S z, vs = [.ref a, .int z] ∧ SetAt K H a S ∧ SgOk S ∧ BigI z ∧ TellsM S z ∧ ∀ r H', MostR S z r → r ≤ z → Same H H' → Q (.int r) H'
def spMostCall (K : PySem.W.Frag) : Sp := fun vs H Q _ => ∃ x S z, vs = [.ref x, .int z] ∧ MstAt K H x S ∧ SgOk S ∧ BigI z ∧ TellsM S z ∧ ∀ r H', MostR S z r → r ≤ z → Same H H' → Q (.int r) H'
def spMostItem (K : PySem.W.Frag) : Sp := fun vs H Q _ => ∃ x S c, vs = [.ref x, .int c] ∧ MstAt K H x S ∧ SgOk S ∧ BigI c ∧ TellsC S c ∧ ∀ H', Same H H' → Q (.int (leastO S c)) H'
def spMostMod (K : PySem.W.Frag) : Sp := fun vs H Q _ => ∃ x S z, vs = [.ref x, .int z] ∧ MstAt K H x S ∧ SgOk S ∧ BigI z ∧ TellsM S z ∧ ∀ r H', MostR S z r → Same H H' → Q (.int (z - leastO S r)) H'
def spMostIn (K : PySem.W.Frag) : Sp := fun vs H Q _ => ∃ x S z, vs = [.ref x, .int z] ∧ MstAt K H x S ∧ SgOk S ∧ BigI z ∧ TellsM S z ∧ ∀ r H', MostR S z r → Same H H' → Q (.bl (decide (leastO S r = z))) H'
def spMost (K : PySem.W.Frag) : Sp := fun vs H Q _ => ∃ a S z, vs = [.ref a, .int z] ∧ SetAt K H a S ∧ SgOk S ∧ BigI z ∧ TellsM S z ∧ ∀ r H', MostR S z r → Same H H' → Q (.int r) H'
def spLeastL (K : PySem.W.Frag) : Sp := fun vs H Q _ => ∃ a S c, vs = [.ref a, .int c] ∧ SetAt K H a S ∧ SgOk S ∧ BigI c ∧ TellsC S c ∧ ∀ H', Same H H' → Q (.int (leastO S c)) H'
theorem intEqM (a b : Int) : decide (V.int a = V.int b) = decide (a = b) := by simp
theorem same_threeM {H : Hp} {x dx : Addr} {o u v : HO} (h1 : H x = none) (h2 : H dx = none) : Same H (upd (upd (upd H dx o) x u) x v) := fun b w hb => by
  rw [upd_ne (ne_of_none hb h1)]
  exact same_two h1 h2 b w hb
theorem big31 {z : Int} (h : BigI z) : Big31 z := by have := h.2; show z ≤ _; omega
set_option hygiene false in
local macro_rules | `(tactic| walk_at "na") => `(tactic| exact T.na_mst_setting)
set_option hygiene false in
local macro_rules | `(tactic| walk_at "cl") => `(tactic| exact T.cl_mst)
section
variable {P : Program} {w : World} {K : PySem.W.Frag} {mg : Str → Option Value} {base : Heap}
theorem d_told_most (T : Txt K mg) (F : FD K mg "told_most" s_told_most) (c_need_size : Dn P w K mg base 4 "need_size" s_need_size ["value"] (spNeedSize)) (c_need_told_of : Dn P w K mg base 10 "need_told_of" s_need_told_of ["setting", "size"] (spNeedToldOf K)) (c_most_of : Dn P w K mg base 10 "most_of" s_most_of ["setting", "size"] (spMostOf K)) : Dn P w K mg base 11 "told_most" s_told_most ["setting", "n"] (spToldM K) := by
  refine dn_of F (fun _ _ _ _ _ _ us hl => match us, hl with | [_, _], _ => rfl) sc_told_most (fun vs H Q E h => ?_) (fun fa cdv A outer s H vs Q E hr h => ?_)
  · obtain ⟨a, S, z, rfl, _⟩ := h
    rfl
  · obtain ⟨a, S, z, rfl, hS, ok, hz, ht, k⟩ := h
    refine ⟨_, PSs.nox (pss_cons (ps_expr (pe_d c_need_size hr (by decide) rfl (pa_cons (pv 1) pa_nil)))
 (pss_cons (ps_expr (pe_d c_need_told_of hr (by decide) rfl (pa_cons (pv 0) (pa_cons (pv 1) pa_nil))))
 (pss_one (ps_ret (pe_d c_most_of hr (by decide) rfl (pa_cons (pv 0) (pa_cons (pv 1) pa_nil))))))), ?_⟩
    refine w_start (σ := [some (.ref a), some (.int z)]) rfl ?_
    repeat walk_at "st"
    refine ⟨z, rfl, hz.1, hz.2, ?_⟩
    repeat walk_at "st"
    refine ⟨a, S, z, rfl, hS, ok, ht, fun H1 e1 => ?_⟩
    repeat walk_at "st"
    refine ⟨a, S, z, rfl, hS.same e1, ok, hz, fun r H2 hr h1 e2 => ?_⟩
    exact k r H2 hr h1 (e1.trans e2)
theorem d_Most___init__ (T : Txt K mg) {f : Addr} (F : FA K "__init__" "Most.__init__" s_Most___init__ [] f) (c_need_setting : Dn P w K mg base 1 "need_setting" s_need_setting ["value", "part"] (spNeedSet K)) : Fr P w K mg base 2 (f) ["self", "setting"] [] (spMostInit K) := by
  refine fr_of0 F (fun _ _ _ _ _ _ us hl => match us, hl with | [_, _], _ => rfl) sc_Most___init__ (fun vs H Q E h => ?_) (fun fa cdv A outer s H vs Q E hr h => ?_)
  · obtain ⟨x, dx, a, S, rfl, _⟩ := h
    rfl
  · obtain ⟨x, dx, a, S, rfl, hx, hS, k⟩ := h
    refine ⟨_, PSs.nox (pss_cons (ps_expr (pe_d c_need_setting hr (by decide) rfl (pa_cons (pv 1) (pa_cons pe_str pa_nil))))
 (pss_one (ps_fld (pv 0) (pv 1) rfl))), ?_⟩
    refine w_start (σ := [some (.ref x), some (.ref a)]) rfl ?_
    repeat walk_at "st"
    refine ⟨a, S, _, rfl, hS, ?_⟩
    repeat walk_at "st"
    exact k
theorem d_Most___call__ (T : Txt K mg) {f : Addr} (F : FA K "__call__" "Most.__call__" s_Most___call__ [] f) (c_told_most : Dn P w K mg base 11 "told_most" s_told_most ["setting", "n"] (spToldM K)) : Fr P w K mg base 12 (f) ["self", "n"] [] (spMostCall K) := by
  refine fr_of0 F (fun _ _ _ _ _ _ us hl => match us, hl with | [_, _], _ => rfl) sc_Most___call__ (fun vs H Q E h => ?_) (fun fa cdv A outer s H vs Q E hr h => ?_)
  · obtain ⟨x, S, z, rfl, _⟩ := h
    rfl
  · obtain ⟨x, S, z, rfl, ⟨dx, a, hx, hS⟩, ok, hz, ht, k⟩ := h
    refine ⟨_, PSs.nox (pss_one (ps_ret (pe_d c_told_most hr (by decide) rfl (pa_cons (pe_fld (pv 0) rfl) (pa_cons (pv 1) pa_nil))))), ?_⟩
    refine w_start (σ := [some (.ref x), some (.int z)]) rfl ?_
    repeat walk_at "st"
    exact ⟨a, S, z, rfl, hS, ok, hz, ht, fun r H' hr h1 e => k r H' hr h1 e⟩
theorem d_Most___rfloordiv__ (T : Txt K mg) {f : Addr} (F : FA K "__rfloordiv__" "Most.__rfloordiv__" s_Most___rfloordiv__ [] f) (c_told_most : Dn P w K mg base 11 "told_most" s_told_most ["setting", "n"] (spToldM K)) : Fr P w K mg base 12 (f) ["self", "number"] [] (spMostCall K) := by
  refine fr_of0 F (fun _ _ _ _ _ _ us hl => match us, hl with | [_, _], _ => rfl) sc_Most___rfloordiv__ (fun vs H Q E h => ?_) (fun fa cdv A outer s H vs Q E hr h => ?_)
  · obtain ⟨x, S, z, rfl, _⟩ := h
    rfl
  · obtain ⟨x, S, z, rfl, ⟨dx, a, hx, hS⟩, ok, hz, ht, k⟩ := h
    refine ⟨_, PSs.nox (pss_one (ps_ret (pe_d c_told_most hr (by decide) rfl (pa_cons (pe_fld (pv 0) rfl) (pa_cons (pv 1) pa_nil))))), ?_⟩
    refine w_start (σ := [some (.ref x), some (.int z)]) rfl ?_
    repeat walk_at "st"
    exact ⟨a, S, z, rfl, hS, ok, hz, ht, fun r H' hr h1 e => k r H' hr h1 e⟩
theorem d_Most___getitem__ (T : Txt K mg) {f : Addr} (F : FA K "__getitem__" "Most.__getitem__" s_Most___getitem__ [] f) (c_need_size : Dn P w K mg base 4 "need_size" s_need_size ["value"] (spNeedSize)) (c_need_told : Dn P w K mg base 5 "need_told" s_need_told ["setting", "codes"] (spNeedTold K)) (c_least_of : Dn P w K mg base 8 "least_of" s_least_of ["setting", "codes"] (spLeast K)) : Fr P w K mg base 9 (f) ["self", "c"] [] (spMostItem K) := by
  refine fr_of0 F (fun _ _ _ _ _ _ us hl => match us, hl with | [_, _], _ => rfl) sc_Most___getitem__ (fun vs H Q E h => ?_) (fun fa cdv A outer s H vs Q E hr h => ?_)
  · obtain ⟨x, S, c, rfl, _⟩ := h
    rfl
  · obtain ⟨x, S, c, rfl, ⟨dx, a, hx, hS⟩, ok, hc, ht, k⟩ := h
    refine ⟨_, PSs.nox (pss_cons (ps_expr (pe_d c_need_size hr (by decide) rfl (pa_cons (pv 1) pa_nil)))
 (pss_cons (ps_expr (pe_d c_need_told hr (by decide) rfl (pa_cons (pe_fld (pv 0) rfl) (pa_cons (pv 1) pa_nil))))
 (pss_one (ps_ret (pe_d c_least_of hr (by decide) rfl (pa_cons (pe_fld (pv 0) rfl) (pa_cons (pv 1) pa_nil))))))), ?_⟩
    refine w_start (σ := [some (.ref x), some (.int c)]) rfl ?_
    repeat walk_at "st"
    refine ⟨c, rfl, hc.1, hc.2, ?_⟩
    repeat walk_at "st"
    refine ⟨a, S, c, rfl, hS, ht, ?_⟩
    repeat walk_at "st"
    exact ⟨a, S, c, rfl, hS, ok, hc.1, big31 hc, fun H' e => k H' e⟩
theorem d_Most___rmod__ (T : Txt K mg) {f : Addr} (F : FA K "__rmod__" "Most.__rmod__" s_Most___rmod__ [] f) (c_least_of : Dn P w K mg base 8 "least_of" s_least_of ["setting", "codes"] (spLeast K)) (c_told_most : Dn P w K mg base 11 "told_most" s_told_most ["setting", "n"] (spToldM K)) : Fr P w K mg base 12 (f) ["self", "number"] [] (spMostMod K) := by
  refine fr_of0 F (fun _ _ _ _ _ _ us hl => match us, hl with | [_, _], _ => rfl) sc_Most___rmod__ (fun vs H Q E h => ?_) (fun fa cdv A outer s H vs Q E hr h => ?_)
  · obtain ⟨x, S, z, rfl, _⟩ := h
    rfl
  · obtain ⟨x, S, z, rfl, ⟨dx, a, hx, hS⟩, ok, hz, ht, k⟩ := h
    refine ⟨_, PSs.nox (pss_one (ps_ret (pe_op op_sub (pv 1) (pe_d c_least_of hr (by decide) rfl (pa_cons (pe_fld (pv 0) rfl) (pa_cons (pe_d c_told_most hr (by decide) rfl (pa_cons (pe_fld (pv 0) rfl) (pa_cons (pv 1) pa_nil))) pa_nil)))))), ?_⟩
    refine w_start (σ := [some (.ref x), some (.int z)]) rfl ?_
    repeat walk_at "st"
    refine ⟨a, S, z, rfl, hS, ok, hz, ht, fun r H1 hr h1 e1 => ?_⟩
    repeat walk_at "st"
    refine ⟨a, S, r, rfl, hS.same e1, ok, hr.1, big31 ⟨hr.1, Int.le_trans h1 hz.2⟩, fun H2 e2 => ?_⟩
    repeat walk_at "st"
    exact k r H2 hr (e1.trans e2)
theorem d_Most___contains__ (T : Txt K mg) {f : Addr} (F : FA K "__contains__" "Most.__contains__" s_Most___contains__ [] f) (c_is_between : Dn P w K mg base 2 "is_between" s_is_between ["value", "least", "most"] (spBetween)) (c_least_of : Dn P w K mg base 8 "least_of" s_least_of ["setting", "codes"] (spLeast K)) (c_told_most : Dn P w K mg base 11 "told_most" s_told_most ["setting", "n"] (spToldM K)) : Fr P w K mg base 12 (f) ["self", "value"] [] (spMostIn K) := by
  refine fr_of0 F (fun _ _ _ _ _ _ us hl => match us, hl with | [_, _], _ => rfl) sc_Most___contains__ (fun vs H Q E h => ?_) (fun fa cdv A outer s H vs Q E hr h => ?_)
  · obtain ⟨x, S, z, rfl, _⟩ := h
    rfl
  · obtain ⟨x, S, z, rfl, ⟨dx, a, hx, hS⟩, ok, hz, ht, k⟩ := h
    refine ⟨_, PSs.nox (pss_one (ps_ret (pe_and (pe_d c_is_between hr (by decide) rfl (pa_cons (pv 1) (pa_cons pe_int (pa_cons (pe_gv rfl T.g_MOST_SIZE) pa_nil)))) (pe_one (pe_cmpR op_eq (pe_d c_least_of hr (by decide) rfl (pa_cons (pe_fld (pv 0) rfl) (pa_cons (pe_d c_told_most hr (by decide) rfl (pa_cons (pe_fld (pv 0) rfl) (pa_cons (pv 1) pa_nil))) pa_nil))) (pv 1) (nomark _)))))), ?_⟩
    refine w_start (σ := [some (.ref x), some (.int z)]) rfl ?_
    repeat walk_at "st"
    refine ⟨.int z, "int", 0, _, rfl, .int z, ?_⟩
    have e : betV 0 1000000000000000000000000000000 (.int z) = true := by
      show (decide (0 ≤ z) && decide (z ≤ 1000000000000000000000000000000)) = true
      rw [decide_eq_true hz.1, decide_eq_true hz.2]
      rfl
    repeat walk_at "st"
    refine w_iteT e ?_
    repeat walk_at "st"
    refine ⟨a, S, z, rfl, hS, ok, hz, ht, fun r H1 hr h1 e1 => ?_⟩
    repeat walk_at "st"
    refine ⟨a, S, r, rfl, hS.same e1, ok, hr.1, big31 ⟨hr.1, Int.le_trans h1 hz.2⟩, fun H2 e2 => ?_⟩
    repeat walk_at "st"
    rw [intEqM]
    exact k r H2 hr (e1.trans e2)
theorem d_most (T : Txt K mg) (F : FD K mg "most" s_most) (c_Most___init__ : Fr P w K mg base 2 (He.ma K (He.ga K "Most") "__init__") ["self", "setting"] [] (spMostInit K)) (c_Most___call__ : Fr P w K mg base 12 (He.ma K (He.ga K "Most") "__call__") ["self", "n"] [] (spMostCall K)) : Dn P w K mg base 14 "most" s_most ["setting", "n"] (spMost K) := by
  refine dn_of F (fun _ _ _ _ _ _ us hl => match us, hl with | [_, _], _ => rfl) sc_most (fun vs H Q E h => ?_) (fun fa cdv A outer s H vs Q E hr h => ?_)
  · obtain ⟨a, S, z, rfl, _⟩ := h
    rfl
  · obtain ⟨a, S, z, rfl, hS, ok, hz, ht, k⟩ := h
    refine ⟨_, PSs.nox (pss_one (ps_ret (pe_ci c_Most___call__ T.ca_mst hr (by decide) (pe_mk c_Most___init__ T.mk_mst T.gc_mst hr (by decide) rfl (pa_cons (pv 0) pa_nil)) (pa_cons (pv 1) pa_nil)))), ?_⟩
    refine w_start (σ := [some (.ref a), some (.int z)]) rfl ?_
    repeat walk_at "st"
    refine fun x dx hx hdx ne => ⟨x, dx, a, S, rfl, upd_same, hS.same (same_two hx hdx), rfl, ?_⟩
    repeat walk_at "st"
    refine ⟨⟨dx, _, upd_same⟩, x, S, z, rfl, ⟨dx, a, upd_same, hS.same (same_threeM hx hdx)⟩, ok, hz, ht, fun r H' hr h1 e => ?_⟩
    exact k r H' hr ((same_threeM hx hdx).trans e)
theorem d_least_letters (T : Txt K mg) (F : FD K mg "least_letters" s_least_letters) (c_Most___init__ : Fr P w K mg base 2 (He.ma K (He.ga K "Most") "__init__") ["self", "setting"] [] (spMostInit K)) (c_Most___getitem__ : Fr P w K mg base 9 (He.ma K (He.ga K "Most") "__getitem__") ["self", "c"] [] (spMostItem K)) : Dn P w K mg base 11 "least_letters" s_least_letters ["setting", "c"] (spLeastL K) := by
  refine dn_of F (fun _ _ _ _ _ _ us hl => match us, hl with | [_, _], _ => rfl) sc_least_letters (fun vs H Q E h => ?_) (fun fa cdv A outer s H vs Q E hr h => ?_)
  · obtain ⟨a, S, c, rfl, _⟩ := h
    rfl
  · obtain ⟨a, S, c, rfl, hS, ok, hc, ht, k⟩ := h
    refine ⟨_, PSs.nox (pss_one (ps_ret (pe_ixO c_Most___getitem__ T.sp_mst_item T.fi_mst_item hr (by decide) (pe_mk c_Most___init__ T.mk_mst T.gc_mst hr (by decide) rfl (pa_cons (pv 0) pa_nil)) (pv 1)))), ?_⟩
    refine w_start (σ := [some (.ref a), some (.int c)]) rfl ?_
    repeat walk_at "st"
    refine fun x dx hx hdx ne => ⟨x, dx, a, S, rfl, upd_same, hS.same (same_two hx hdx), rfl, ?_⟩
    repeat walk_at "st"
    refine ⟨x, dx, _, rfl, upd_same, x, S, c, rfl, ⟨dx, a, upd_same, hS.same (same_threeM hx hdx)⟩, ok, hc, ht, fun H' e => ?_⟩
    exact k H' ((same_threeM hx hdx).trans e)
end

end Pt_most3
section Pt_numin
/-! ### numbers written and read again -/
theorem ok_num (n : Nat) (h : n ≤ 100000) : okL (TL.numL n) = true ∧ figL (TL.numL n) = TL.numL n := by
  have hf : figL (TL.numL n) = TL.numL n := by
    rcases fig_split (TL.numL n) with ⟨r, e, _⟩ | ⟨_, e, _⟩
    · exact absurd (by rw [e]; exact List.mem_cons_self) (numL_45 n)
    · exact e
  refine ⟨?_, hf⟩
  have hl : (TL.numL n).length ≤ 7 := by
    have := intL_len (n := (n : Int)) (k := 6) (by decide) (by rw [Int.natAbs_natCast]; omega)
    rw [intL_nat] at this
    exact this
  unfold okL
  rw [hf, decide_eq_false (TL.numL_ne n), decide_eq_true (Nat.le_trans hl (by decide))]
  show ((TL.numL n).all fun c => decide (c ∈ digL)) = true
  rw [List.all_eq_true]
  intro c hc
  have hc' : c ∈ intL (n : Int) := hc
  rcases intL_codes (n : Int) c hc' with e | e
  · rw [e] at hc
    exact absurd hc (numL_45 n)
  · exact decide_eq_true (dig_iff.mpr e)
theorem numO_num (n : Nat) (h : n ≤ 100000) : numO (intL (n : Int)) = some (n : Int) := by
  obtain ⟨ok, _⟩ := ok_num n h
  have hl : (TL.numL n).length ≤ 4300 := by
    have := intL_len (n := (n : Int)) (k := 6) (by decide) (by rw [Int.natAbs_natCast]; omega)
    rw [intL_nat] at this
    omega
  have h1 := (int_ok ok).1
  have h2 := TL.int_num hl
  rw [toString_S, intL_nat] at h2
  have e : valL (TL.numL n) = (n : Int) := Option.some.inj (h1.symm.trans h2)
  unfold numO
  rw [intL_nat, e, intL_nat, if_pos ⟨ok, rfl⟩]
theorem numV_num {n : Nat} {lo hi : Int} (h : n ≤ 100000) (h2 : lo ≤ n ∧ (n : Int) ≤ hi) : numV (intL (n : Int)) lo hi = .int n := numV_in (numO_num n h) h2
theorem numV_int {n lo hi : Int} (h0 : 0 ≤ n) (h : n ≤ 100000) (h2 : lo ≤ n ∧ n ≤ hi) : numV (intL n) lo hi = .int n := by
  obtain ⟨m, rfl⟩ : ∃ m : Nat, n = m := ⟨n.toNat, by omega⟩
  exact numV_num (by omega) h2
/-! ### settings as words -/
def kindL : Bool → Wd
  | true => [104, 105, 100, 100, 101, 110]
  | false => [116, 111, 108, 100]
def limL : LimK → Wd
  | .free => [102, 114, 101, 101]
  | .short => [115, 104, 111, 114, 116]
  | .cleared => [99, 108, 101, 97, 114, 101, 100]
  | .standing => [115, 116, 97, 110, 100, 105, 110, 103]
theorem kind_S (h : Bool) : setWord h = SX.S (kindL h) := by cases h <;> decide +kernel
theorem lim_S (k : LimK) : limW k = SX.S (limL k) := by cases k <;> decide +kernel
def limWs : LimK → Int → List Wd
  | .free, _ => [limL .free]
  | k, n => [limL k, intL n]
def wsOf (S : Sg) : List Wd := [kindL S.hid, intL S.q] ++ limWs S.lk S.ln
def textL (S : Sg) : Wd := TL.joinL [32] (wsOf S)
theorem int_32 (n : Int) : 32 ∉ intL n := fun h => by
  rcases intL_codes n 32 h with e | e
  · exact absurd e (by decide)
  · exact absurd e.1 (by decide)
theorem ws_32 (S : Sg) : ∀ p ∈ wsOf S, 32 ∉ p := by
  intro p hp
  have hk : 32 ∉ kindL S.hid := by cases S.hid <;> decide
  have hl : 32 ∉ limL S.lk := by cases S.lk <;> decide
  have lw : ∀ p ∈ limWs S.lk S.ln, p = limL S.lk ∨ p = intL S.ln := by
    intro p hp
    cases hk : S.lk <;> rw [hk] at hp <;> simp [limWs] at hp
    · exact .inl hp
    · exact hp
    · exact hp
    · exact hp
  rcases List.mem_append.mp hp with h | h
  · simp only [List.mem_cons, List.not_mem_nil, or_false] at h
    rcases h with rfl | rfl
    · exact hk
    · exact int_32 _
  · rcases lw p h with rfl | rfl
    · exact hl
    · exact int_32 _
theorem split_text (S : Sg) : Txt.split (SX.S (textL S)) " " = (wsOf S).map SX.S := by
  have e : (" " : Str) = SX.S [32] := rfl
  rw [e, SX.split_S (by decide) (by decide)]
  unfold textL
  rw [TL.spl_join (by unfold wsOf; simp) (ws_32 S)]
theorem cut_one {L : List Wd} {i : Nat} {w : Wd} (h : L[i]? = some w) : cutV (L.map strW) (some (i : Int)) (some ((i : Int) + 1)) = [strW w] := by
  have hi : i < L.length := (List.getElem?_eq_some_iff.mp h).1
  unfold cutV
  rw [HT.sIx_nat, show ((i : Int) + 1) = ((i + 1 : Nat) : Int) by omega, HT.sIx_nat, List.length_map, Nat.min_eq_left (by omega), Nat.min_eq_left (by omega), show i + 1 - i = 1 by omega]
  rw [List.take_one, List.head?_drop, List.getElem?_map, h]
  rfl

end Pt_numin
section Pt_read
/-! ### limit_at, setting_at, Setting.read -/
def spLimitAt (K : PySem.W.Frag) : Sp := fun vs H Q _ => ∃ p S, vs = [.ref p, .int 2] ∧ H p = some (.lst ((wsOf S).map strW)) ∧ limOk S.lk S.ln ∧ ∀ t l H', Same H H' → LimAt K H' l S.lk S.ln → H' t = some (.tup [.ref l, .int ((wsOf S).length : Nat)]) → Q (.ref t) H'
def spSettingAt (K : PySem.W.Frag) : Sp := fun vs H Q _ => ∃ p S, vs = [.ref p, .int 0] ∧ H p = some (.lst ((wsOf S).map strW)) ∧ limOk S.lk S.ln ∧ 2 ≤ S.q ∧ S.q ≤ 26 ∧ ∀ t a H', Same H H' → SetAt K H' a S → H' t = some (.tup [.ref a, .int ((wsOf S).length : Nat)]) → Q (.ref t) H'
def spSetRead (K : PySem.W.Frag) : Sp := fun vs H Q _ => ∃ C S, vs = [C, .str (SX.S (textL S))] ∧ limOk S.lk S.ln ∧ 2 ≤ S.q ∧ S.q ≤ 26 ∧ ∀ a H', Same H H' → SetAt K H' a S → Q (.ref a) H'
theorem join1 (w : Wd) : Txt.join (SX.S []) [SX.S w] = SX.S w := (SX.join_S [] [w]).trans rfl
theorem ws_at (S : Sg) : (wsOf S)[0]? = some (kindL S.hid) ∧ (wsOf S)[1]? = some (intL S.q) ∧ (wsOf S)[2]? = some (limL S.lk) := by
  unfold wsOf
  cases h : S.lk <;> exact ⟨rfl, rfl, rfl⟩
theorem ws_num (S : Sg) (h : S.lk ≠ .free) : (wsOf S)[3]? = some (intL S.ln) ∧ (wsOf S).length = 4 := by
  unfold wsOf
  cases hk : S.lk with
  | free => exact absurd hk h
  | _ => exact ⟨rfl, rfl⟩
theorem ws_free (S : Sg) (h : S.lk = .free) : (wsOf S).length = 3 := by
  unfold wsOf
  rw [h]
  rfl
theorem kind_len (h : Bool) : (kindL h).length ≤ 6 := by cases h <;> decide
theorem limL_len (k : LimK) : (limL k).length ≤ 8 := by cases k <;> decide
theorem intL_small {n : Int} (h0 : 0 ≤ n) (h : n ≤ 100000) : (intL n).length ≤ 7 := intL_len (k := 6) (by decide) (by omega)
theorem strEq (a b : Str) : decide (V.str a = V.str b) = decide (a = b) := by simp
theorem limEq (k j : LimK) : decide (V.str (limW k) = V.str (limW j)) = kEq k j := by cases k <;> cases j <;> decide +kernel
theorem kindEq (h j : Bool) : decide (V.str (setWord h) = V.str (setWord j)) = (h == j) := by cases h <;> cases j <;> decide +kernel
theorem inLim (k : LimK) : inV (V.str (limW k)) [V.str (limW .short), V.str (limW .cleared), V.str (limW .standing)] = !kEq k .free := by cases k <;> decide +kernel
theorem inKind (h : Bool) : inV (V.str (setWord h)) [V.str (setWord true), V.str (setWord false)] = true := by cases h <;> decide +kernel
theorem mkLim2 {K : PySem.W.Frag} {H : Hp} {k : LimK} {n : Int} {R : Addr → Hp → Prop} (hk : limOk k n) (kk : ∀ l' H1, Same H H1 → LimAt K H1 l' k n → R l' H1) : ∀ x dx, H x = none → H dx = none → dx ≠ x → spLimInit K k (.ref x :: (limArgs k n ++ [])) (upd (upd H dx (.own x)) x (.ins (cLim K k) dx [])) (fun v H2 => v = .non ∧ R x H2) E0 :=
  fun x dx hx hdx ne => ⟨x, dx, n, by rw [List.append_nil], hk, upd_same, rfl, kk x _ (fun c o hc => by rw [upd_ne (ne_of_none hc hx)]; exact same_two hx hdx c o hc) ⟨dx, upd_same⟩⟩
set_option hygiene false in
local macro_rules | `(tactic| walk_at "st") => `(tactic| first
  | ((with_reducible refine' w_aug ?h ?_); (case h => exact rfl))
  | (with_reducible first | refine w_bm ?_ | refine w_fldAug ?_ | refine w_seqU ?_ | refine w_enumL ?_)
  | ((with_reducible refine' w_tyL ?h ?_); (case h => walk_at "hp"))
  | ((with_reducible refine' w_enumLAt ?h ?_); (case h => walk_at "hp")))

set_option hygiene false in
local macro_rules | `(tactic| walk_at "st") => `(tactic| first | (refine w_cval (T.cw_lim _) ⟨rfl, ?_⟩ fun h => h _ _) | (refine w_cval (T.cw_set _) ⟨rfl, ?_⟩ fun h => h _ _) | (refine w_cval T.most_s ⟨rfl, ?_⟩ fun h => h _ _) | (refine w_cval T.most_c ⟨rfl, ?_⟩ fun h => h _ _))
section
variable {P : Program} {w : World} {K : PySem.W.Frag} {mg : Str → Option Value} {base : Heap}
theorem d_limit_at (T : Txt K mg) (F : FD K mg "limit_at" s_limit_at) (c_number_of : Dn P w K mg base 1 "number_of" s_number_of ["word", "least", "most"] (spNumOf)) (c_Free___init__ : Fr P w K mg base 1 (He.ma K (cLim K .free) "__init__") ["self"] [] (spLimInit K .free)) (c_Short___init__ : Fr P w K mg base 3 (He.ma K (cLim K .short) "__init__") ["self", "longest"] [] (spLimInit K .short)) (c_Cleared___init__ : Fr P w K mg base 3 (He.ma K (cLim K .cleared) "__init__") ["self", "many"] [] (spLimInit K .cleared)) (c_Standing___init__ : Fr P w K mg base 3 (He.ma K (cLim K .standing) "__init__") ["self", "many"] [] (spLimInit K .standing)) : Dn P w K mg base 5 "limit_at" s_limit_at ["words", "at"] (spLimitAt K) := by
  refine dn_of F (fun _ _ _ _ _ _ us hl => match us, hl with | [_, _], _ => rfl) sc_limit_at (fun vs H Q E h => ?_) (fun fa cdv A outer s H vs Q E hr h => ?_)
  · obtain ⟨p, S, rfl, _⟩ := h
    rfl
  · obtain ⟨p, S, rfl, hp, ok, k⟩ := h
    obtain ⟨n0, n1⟩ := lim_small ok
    obtain ⟨_, _, hw2⟩ := ws_at S
    have ll := limL_len S.lk
    refine ⟨_, PSs.nox (pss_cons (ps_set (i := 2) sc_limit_at.nd rfl (Or.inl rfl) (pe_join pe_str (pe_slice sl_list (pv 0) (po_some (pv 1)) (po_some (pe_op op_add (pv 1) pe_int)))))
 (pss_cons (ps_if (pt_cmpR op_eq (pv 2) (ClX.pe_cval (pe_gc rfl (T.gc_lim .free))) (nomark _))
 (pss_one (ps_ret (pe_tup (pa_cons (pe_mk0 c_Free___init__ (T.mk_lim .free) (T.gc_lim .free) hr (by decide) rfl) (pa_cons (pe_op op_add (pv 1) pe_int) pa_nil)))))
 pss_nil)
 (pss_cons (ps_if (pt_cmpR op_notIn_seq (pv 2) (pe_tup (pa_cons (ClX.pe_cval (pe_gc rfl (T.gc_lim .short))) (pa_cons (ClX.pe_cval (pe_gc rfl (T.gc_lim .cleared))) (pa_cons (ClX.pe_cval (pe_gc rfl (T.gc_lim .standing))) pa_nil)))) (by rfl))
 (pss_one ps_never)
 pss_nil)
 (pss_cons (ps_set (i := 3) sc_limit_at.nd rfl (Or.inl rfl) (pe_ifExp (pt_cmpR op_eq (pv 2) (ClX.pe_cval (pe_gc rfl (T.gc_lim .short))) (nomark _)) (ClX.pe_cval (pe_gc rfl (T.gc_lim .short))) (ClX.pe_cval (pe_gc rfl (T.gc_Counted)))))
 (pss_cons (ps_set (i := 4) sc_limit_at.nd rfl (Or.inl rfl) (pe_d c_number_of hr (by decide) rfl (pa_cons (pe_join pe_str (pe_slice sl_list (pv 0) (po_some (pe_op op_add (pv 1) pe_int)) (po_some (pe_op op_add (pv 1) pe_int)))) (pa_cons (pe_ifExp (pt_cmpR op_eq (pv 2) (ClX.pe_cval (pe_gc rfl (T.gc_lim .standing))) (nomark _)) pe_int pe_int) (pa_cons (pv 3) pa_nil)))))
 (pss_cons (ps_if (pt_cmpR op_isN' (pv 4) pe_non (nomark _))
 (pss_one ps_never)
 pss_nil)
 (pss_cons (ps_if (pt_cmpR op_eq (pv 2) (ClX.pe_cval (pe_gc rfl (T.gc_lim .short))) (nomark _))
 (pss_one (ps_ret (pe_tup (pa_cons (pe_mk c_Short___init__ (T.mk_lim .short) (T.gc_lim .short) hr (by decide) rfl (pa_cons (pv 4) pa_nil)) (pa_cons (pe_op op_add (pv 1) pe_int) pa_nil)))))
 pss_nil)
 (pss_one (ps_ret (pe_tup (pa_cons (pe_ifExp (pt_cmpR op_eq (pv 2) (ClX.pe_cval (pe_gc rfl (T.gc_lim .cleared))) (nomark _)) (pe_mk c_Cleared___init__ (T.mk_lim .cleared) (T.gc_lim .cleared) hr (by decide) rfl (pa_cons (pv 4) pa_nil)) (pe_mk c_Standing___init__ (T.mk_lim .standing) (T.gc_lim .standing) hr (by decide) rfl (pa_cons (pv 4) pa_nil))) (pa_cons (pe_op op_add (pv 1) pe_int) pa_nil)))))))))))), ?_⟩
    refine w_start (σ := [some (.ref p), some (.int 2), none, none, none]) rfl ?_
    repeat walk_at "st"
    refine ⟨⟨_, rfl⟩, ?_⟩
    repeat walk_at "st"
    refine w_slL (SqL.of hp) fun p1 h1 => ?_
    rw [show cutV ((wsOf S).map strW) (some 2) (some (2 + 1)) = [strW (limL S.lk)] from cut_one (i := 2) hw2]
    refine ⟨SX.S [], p1, [SX.S (limL S.lk)], rfl, rfl, .inl (SqL.of upd_same), by show (SX.S (limL S.lk)).length + 0 + 1 * 0 ≤ 16777216; rw [sx_len]; omega, ?_⟩
    rw [join1, ← lim_S]
    have s1 := same_new (o := .lst [strW (limL S.lk)]) h1 (Same.refl H)
    generalize upd H p1 (.lst [strW (limL S.lk)]) = H1 at s1 ⊢
    clear h1
    have hp1 := s1 _ _ hp
    repeat walk_at "st"
    with_reducible refine w_seq ?_
    repeat walk_at "st"
    rw [limEq]
    obtain ⟨lk, elk⟩ : ∃ x, x = S.lk := ⟨_, rfl⟩
    obtain ⟨n, en⟩ : ∃ x, x = S.ln := ⟨_, rfl⟩
    rw [← elk, ← en] at ok k
    rw [← en] at n0 n1
    rw [← elk] at ll ⊢
    cases lk with
    | free =>
      have e0 : n = 0 := ok
      subst e0
      repeat walk_at "st"
      refine mkLim2 (k := .free) (n := 0) rfl fun l' H2 e2 hl' => ?_
      repeat walk_at "st"
      refine ⟨by walk_at "len", fun t ht => ?_⟩
      refine k t l' _ (same_new (same_free (s1.trans e2) ht) (s1.trans e2)) (hl'.same (same_new ht (Same.refl _))) ?_
      rw [upd_same, ws_free S elk.symm]
      rfl
    | short =>
      repeat walk_at "st"
      with_reducible refine w_seq ?_
      repeat walk_at "st"
      refine ⟨by walk_at "len", fun tp htp => ?_⟩
      refine ⟨tp, _, rfl, .inr (SqT.of upd_same), rfl, rfl, ?_⟩
      rw [inLim]
      have s2 := same_new (o := .tup [.str (limW .short), .str (limW .cleared), .str (limW .standing)]) (same_free s1 htp) s1
      generalize upd H1 tp (.tup [.str (limW .short), .str (limW .cleared), .str (limW .standing)]) = H2 at s2 ⊢
      have hp2 := s2 _ _ hp
      obtain ⟨hw3, hwl⟩ := ws_num S (by rw [← elk]; intro z; cases z)
      rw [← en] at hw3
      have nl := intL_small n0 (by omega)
      repeat walk_at "st"
      try rw [limEq]
      repeat walk_at "st"
      refine ⟨⟨_, rfl⟩, ?_⟩
      repeat walk_at "st"
      refine w_slL (SqL.of hp2) fun p3 h3 => ?_
      rw [show cutV ((wsOf S).map strW) (some (2 + 1)) (some (2 + 2)) = [strW (intL n)] from cut_one (i := 3) hw3]
      refine ⟨SX.S [], p3, [SX.S (intL n)], rfl, rfl, .inl (SqL.of upd_same), by show (SX.S (intL n)).length + 0 + 1 * 0 ≤ 16777216; rw [sx_len]; omega, ?_⟩
      rw [join1]
      have s3 := same_new (o := .lst [strW (intL n)]) (same_free s2 h3) s2
      generalize upd H2 p3 (.lst [strW (intL n)]) = H3 at s3 ⊢
      repeat walk_at "st"
      try rw [limEq]
      repeat walk_at "st"
      refine ⟨intL n, 1, 64, rfl, by omega, fun H4 e4 => ?_⟩
      rw [numV_int n0 (by omega) ⟨ok.1, ok.2⟩]
      repeat walk_at "st"
      with_reducible refine w_seq ?_
      repeat walk_at "st"
      with_reducible refine w_seq ?_
      repeat walk_at "st"
      try rw [limEq]
      repeat walk_at "st"
      try rw [limEq]
      repeat walk_at "st"
      refine mkLim2 (k := .short) (n := n) ok fun l' H5 e5 hl' => ?_
      repeat walk_at "st"
      refine ⟨by walk_at "len", fun t ht => ?_⟩
      have s5 := (s3.trans e4).trans e5
      refine k t l' _ (same_new (same_free s5 ht) s5) (hl'.same (same_new ht (Same.refl _))) ?_
      rw [upd_same, hwl]
      rfl
    | cleared =>
      repeat walk_at "st"
      with_reducible refine w_seq ?_
      repeat walk_at "st"
      refine ⟨by walk_at "len", fun tp htp => ?_⟩
      refine ⟨tp, _, rfl, .inr (SqT.of upd_same), rfl, rfl, ?_⟩
      rw [inLim]
      have s2 := same_new (o := .tup [.str (limW .short), .str (limW .cleared), .str (limW .standing)]) (same_free s1 htp) s1
      generalize upd H1 tp (.tup [.str (limW .short), .str (limW .cleared), .str (limW .standing)]) = H2 at s2 ⊢
      have hp2 := s2 _ _ hp
      obtain ⟨hw3, hwl⟩ := ws_num S (by rw [← elk]; intro z; cases z)
      rw [← en] at hw3
      have nl := intL_small n0 (by omega)
      repeat walk_at "st"
      try rw [limEq]
      repeat walk_at "st"
      refine ⟨⟨_, rfl⟩, ?_⟩
      repeat walk_at "st"
      refine w_slL (SqL.of hp2) fun p3 h3 => ?_
      rw [show cutV ((wsOf S).map strW) (some (2 + 1)) (some (2 + 2)) = [strW (intL n)] from cut_one (i := 3) hw3]
      refine ⟨SX.S [], p3, [SX.S (intL n)], rfl, rfl, .inl (SqL.of upd_same), by show (SX.S (intL n)).length + 0 + 1 * 0 ≤ 16777216; rw [sx_len]; omega, ?_⟩
      rw [join1]
      have s3 := same_new (o := .lst [strW (intL n)]) (same_free s2 h3) s2
      generalize upd H2 p3 (.lst [strW (intL n)]) = H3 at s3 ⊢
      repeat walk_at "st"
      try rw [limEq]
      repeat walk_at "st"
      refine ⟨intL n, 1, 4096, rfl, by omega, fun H4 e4 => ?_⟩
      rw [numV_int n0 (by omega) ⟨ok.1, ok.2⟩]
      repeat walk_at "st"
      with_reducible refine w_seq ?_
      repeat walk_at "st"
      with_reducible refine w_seq ?_
      repeat walk_at "st"
      try rw [limEq]
      repeat walk_at "st"
      try rw [limEq]
      repeat walk_at "st"
      refine mkLim2 (k := .cleared) (n := n) ok fun l' H5 e5 hl' => ?_
      repeat walk_at "st"
      refine ⟨by walk_at "len", fun t ht => ?_⟩
      have s5 := (s3.trans e4).trans e5
      refine k t l' _ (same_new (same_free s5 ht) s5) (hl'.same (same_new ht (Same.refl _))) ?_
      rw [upd_same, hwl]
      rfl
    | standing =>
      repeat walk_at "st"
      with_reducible refine w_seq ?_
      repeat walk_at "st"
      refine ⟨by walk_at "len", fun tp htp => ?_⟩
      refine ⟨tp, _, rfl, .inr (SqT.of upd_same), rfl, rfl, ?_⟩
      rw [inLim]
      have s2 := same_new (o := .tup [.str (limW .short), .str (limW .cleared), .str (limW .standing)]) (same_free s1 htp) s1
      generalize upd H1 tp (.tup [.str (limW .short), .str (limW .cleared), .str (limW .standing)]) = H2 at s2 ⊢
      have hp2 := s2 _ _ hp
      obtain ⟨hw3, hwl⟩ := ws_num S (by rw [← elk]; intro z; cases z)
      rw [← en] at hw3
      have nl := intL_small n0 (by omega)
      repeat walk_at "st"
      try rw [limEq]
      repeat walk_at "st"
      refine ⟨⟨_, rfl⟩, ?_⟩
      repeat walk_at "st"
      refine w_slL (SqL.of hp2) fun p3 h3 => ?_
      rw [show cutV ((wsOf S).map strW) (some (2 + 1)) (some (2 + 2)) = [strW (intL n)] from cut_one (i := 3) hw3]
      refine ⟨SX.S [], p3, [SX.S (intL n)], rfl, rfl, .inl (SqL.of upd_same), by show (SX.S (intL n)).length + 0 + 1 * 0 ≤ 16777216; rw [sx_len]; omega, ?_⟩
      rw [join1]
      have s3 := same_new (o := .lst [strW (intL n)]) (same_free s2 h3) s2
      generalize upd H2 p3 (.lst [strW (intL n)]) = H3 at s3 ⊢
      repeat walk_at "st"
      try rw [limEq]
      repeat walk_at "st"
      refine ⟨intL n, 0, 4096, rfl, by omega, fun H4 e4 => ?_⟩
      rw [numV_int n0 (by omega) ⟨ok.1, ok.2⟩]
      repeat walk_at "st"
      with_reducible refine w_seq ?_
      repeat walk_at "st"
      with_reducible refine w_seq ?_
      repeat walk_at "st"
      try rw [limEq]
      repeat walk_at "st"
      try rw [limEq]
      repeat walk_at "st"
      refine mkLim2 (k := .standing) (n := n) ok fun l' H5 e5 hl' => ?_
      repeat walk_at "st"
      refine ⟨by walk_at "len", fun t ht => ?_⟩
      have s5 := (s3.trans e4).trans e5
      refine k t l' _ (same_new (same_free s5 ht) s5) (hl'.same (same_new ht (Same.refl _))) ?_
      rw [upd_same, hwl]
      rfl
theorem d_setting_at (T : Txt K mg) (F : FD K mg "setting_at" s_setting_at) (c_number_of : Dn P w K mg base 1 "number_of" s_number_of ["word", "least", "most"] (spNumOf)) (c_limit_at : Dn P w K mg base 5 "limit_at" s_limit_at ["words", "at"] (spLimitAt K)) (c_set_init2 : ∀ h : Bool, Fr P w K mg base 5 (He.ma K (cSet K h) "__init__") ["self", "letters", "limit"] [] (spSetInit K h)) : Dn P w K mg base 7 "setting_at" s_setting_at ["words", "at"] (spSettingAt K) := by
  refine dn_of F (fun _ _ _ _ _ _ us hl => match us, hl with | [_, _], _ => rfl) sc_setting_at (fun vs H Q E h => ?_) (fun fa cdv A outer s H vs Q E hr h => ?_)
  · obtain ⟨p, S, rfl, _⟩ := h
    rfl
  · obtain ⟨p, S, rfl, hp, ok, q1, q2, k⟩ := h
    obtain ⟨hw0, hw1, _⟩ := ws_at S
    have kl := kind_len S.hid
    have ql := intL_small (n := (S.q : Int)) (by omega) (by omega)
    refine ⟨_, PSs.nox (pss_cons (ps_set (i := 2) sc_setting_at.nd rfl (Or.inl rfl) (pe_join pe_str (pe_slice sl_list (pv 0) (po_some (pv 1)) (po_some (pe_op op_add (pv 1) pe_int)))))
 (pss_cons (ps_if (pt_cmpR op_notIn_seq (pv 2) (pe_tup (pa_cons (ClX.pe_cval (pe_gc rfl (T.gc_Hidden))) (pa_cons (ClX.pe_cval (pe_gc rfl (T.gc_Told))) pa_nil))) (by rfl))
 (pss_one ps_never)
 pss_nil)
 (pss_cons (ps_set (i := 3) sc_setting_at.nd rfl (Or.inl rfl) (pe_d c_number_of hr (by decide) rfl (pa_cons (pe_join pe_str (pe_slice sl_list (pv 0) (po_some (pe_op op_add (pv 1) pe_int)) (po_some (pe_op op_add (pv 1) pe_int)))) (pa_cons (pe_gv rfl T.g_LEAST_LETTERS) (pa_cons (pe_gv rfl T.g_MOST_LETTERS) pa_nil)))))
 (pss_cons (ps_if (pt_cmpR op_isN' (pv 3) pe_non (nomark _))
 (pss_one ps_never)
 pss_nil)
 (pss_cons (ps_asg (pe_d c_limit_at hr (by decide) rfl (pa_cons (pv 0) (pa_cons (pe_op op_add (pv 1) pe_int) pa_nil))) (pg_tup rfl (pgs_cons (pg_name (i := 4) sc_setting_at.nd rfl (Or.inl rfl)) (pgs_cons (pg_name (i := 5) sc_setting_at.nd rfl (Or.inl rfl)) pgs_nil))))
 (pss_one (ps_ret (pe_tup (pa_cons (pe_ifExp (pt_cmpR op_eq (pv 2) (ClX.pe_cval (pe_gc rfl (T.gc_Hidden))) (nomark _)) (pe_mk (c_set_init2 true) (T.mk_set true) T.gc_Hidden hr (by decide) rfl (pa_cons (pv 3) (pa_cons (pv 4) pa_nil))) (pe_mk (c_set_init2 false) (T.mk_set false) T.gc_Told hr (by decide) rfl (pa_cons (pv 3) (pa_cons (pv 4) pa_nil)))) (pa_cons (pv 5) pa_nil)))))))))), ?_⟩
    refine w_start (σ := [some (.ref p), some (.int 0), none, none, none, none]) rfl ?_
    repeat walk_at "st"
    refine ⟨⟨_, rfl⟩, ?_⟩
    repeat walk_at "st"
    refine w_slL (SqL.of hp) fun p1 h1 => ?_
    rw [show cutV ((wsOf S).map strW) (some 0) (some (0 + 1)) = [strW (kindL S.hid)] from cut_one (i := 0) hw0]
    refine ⟨SX.S [], p1, [SX.S (kindL S.hid)], rfl, rfl, .inl (SqL.of upd_same), by show (SX.S (kindL S.hid)).length + 0 + 1 * 0 ≤ 16777216; rw [sx_len]; omega, ?_⟩
    rw [join1, ← kind_S]
    have s1 := same_new (o := .lst [strW (kindL S.hid)]) h1 (Same.refl H)
    generalize upd H p1 (.lst [strW (kindL S.hid)]) = H1 at s1 ⊢
    repeat walk_at "st"
    with_reducible refine w_seq ?_
    repeat walk_at "st"
    refine ⟨by walk_at "len", fun tp htp => ?_⟩
    refine ⟨tp, _, rfl, .inr (SqT.of upd_same), rfl, rfl, ?_⟩
    rw [inKind]
    have s2 := same_new (o := .tup [.str (setWord true), .str (setWord false)]) (same_free s1 htp) s1
    generalize upd H1 tp (.tup [.str (setWord true), .str (setWord false)]) = H2 at s2 ⊢
    have hp2 := s2 _ _ hp
    repeat walk_at "st"
    refine ⟨⟨_, rfl⟩, ?_⟩
    repeat walk_at "st"
    refine w_slL (SqL.of hp2) fun p3 h3 => ?_
    rw [show cutV ((wsOf S).map strW) (some (0 + 1)) (some (0 + 2)) = [strW (intL S.q)] from cut_one (i := 1) hw1]
    refine ⟨SX.S [], p3, [SX.S (intL S.q)], rfl, rfl, .inl (SqL.of upd_same), by show (SX.S (intL S.q)).length + 0 + 1 * 0 ≤ 16777216; rw [sx_len]; omega, ?_⟩
    rw [join1]
    have s3 := same_new (o := .lst [strW (intL S.q)]) (same_free s2 h3) s2
    generalize upd H2 p3 (.lst [strW (intL S.q)]) = H3 at s3 ⊢
    repeat walk_at "st"
    refine ⟨intL S.q, 2, 26, rfl, by omega, fun H4 e4 => ?_⟩
    rw [numV_int (by omega) (by omega) ⟨by omega, by omega⟩]
    repeat walk_at "st"
    with_reducible refine w_seq ?_
    repeat walk_at "st"
    have s4 := s3.trans e4
    refine ⟨p, S, rfl, s4 _ _ hp, ok, fun t l H5 e5 hl ht => ?_⟩
    repeat walk_at "st"
    rw [kindEq]
    cases hh : S.hid with
    | true =>
      repeat walk_at "st"
      refine fun x dx hx hdx ne => ⟨x, dx, (S.q : Int), .ref l, S.lk, S.ln, rfl, by omega, by omega, upd_same, Or.inr ⟨l, rfl, hl.same (same_two hx hdx)⟩, fun H6 l2 e6 hx6 hl6 => ⟨rfl, ?_⟩⟩
      have s6 : Same H5 H6 := fun b o hb => e6 b o (ne_of_none hb hx) (same_two hx hdx b o hb)
      have s7 := (s4.trans e5).trans s6
      repeat walk_at "st"
      refine ⟨by walk_at "len", fun t2 ht2 => ?_⟩
      refine k t2 x _ (same_new (same_free s7 ht2) s7) (SetAt.same (same_new ht2 (Same.refl _)) ⟨dx, l2, by rw [hh]; exact hx6, hl6, q1, q2⟩) ?_
      rw [upd_same]
    | false =>
      repeat walk_at "st"
      refine fun x dx hx hdx ne => ⟨x, dx, (S.q : Int), .ref l, S.lk, S.ln, rfl, by omega, by omega, upd_same, Or.inr ⟨l, rfl, hl.same (same_two hx hdx)⟩, fun H6 l2 e6 hx6 hl6 => ⟨rfl, ?_⟩⟩
      have s6 : Same H5 H6 := fun b o hb => e6 b o (ne_of_none hb hx) (same_two hx hdx b o hb)
      have s7 := (s4.trans e5).trans s6
      repeat walk_at "st"
      refine ⟨by walk_at "len", fun t2 ht2 => ?_⟩
      refine k t2 x _ (same_new (same_free s7 ht2) s7) (SetAt.same (same_new ht2 (Same.refl _)) ⟨dx, l2, by rw [hh]; exact hx6, hl6, q1, q2⟩) ?_
      rw [upd_same]
theorem d_Setting_read (T : Txt K mg) {f : Addr} (F : FA K "read" "Setting.read" s_Setting_read [] f) (c_setting_at : Dn P w K mg base 7 "setting_at" s_setting_at ["words", "at"] (spSettingAt K)) : Fr P w K mg base 8 (f) ["cls", "text"] [] (spSetRead K) := by
  refine fr_of0 F (fun _ _ _ _ _ _ us hl => match us, hl with | [_, _], _ => rfl) sc_Setting_read (fun vs H Q E h => ?_) (fun fa cdv A outer s H vs Q E hr h => ?_)
  · obtain ⟨C, S, rfl, _⟩ := h
    rfl
  · obtain ⟨C, S, rfl, ok, q1, q2, k⟩ := h
    obtain ⟨n0, n1⟩ := lim_small ok
    have tl : (textL S).length ≤ 1000 := by
      have kl := kind_len S.hid
      have ql := intL_small (n := (S.q : Int)) (by omega) (by omega)
      have ll := limL_len S.lk
      have nl := intL_small n0 (by omega)
      unfold textL wsOf
      cases hk : S.lk <;> rw [hk] at ll <;> simp [limWs, TL.joinL] <;> omega
    have sz := sizeLine_eq
    refine ⟨_, PSs.nox (pss_cons (ps_set (i := 2) sc_Setting_read.nd rfl (Or.inl rfl) (pe_ifExp (pt_val (pe_callB call_isi (by rfl) T.n_isinstance (by decide +kernel) (pa_cons (pv 1) (pa_cons (pe_bltn (v := .ty "str") (by rfl) T.n_str (by decide +kernel) rfl) pa_nil))) (by intro _; rfl)) (pe_split (pv 1) pe_str) (pe_lst (pa_cons pe_str pa_nil))))
 (pss_cons (ps_asg (pe_d c_setting_at hr (by decide) rfl (pa_cons (pv 2) (pa_cons pe_int pa_nil))) (pg_tup rfl (pgs_cons (pg_name (i := 3) sc_Setting_read.nd rfl (Or.inl rfl)) (pgs_cons (pg_name (i := 4) sc_Setting_read.nd rfl (Or.inl rfl)) pgs_nil))))
 (pss_cons (ps_if (pt_cmpR op_lt (pv 4) (pe_callB cl_lenQ (by rfl) T.n_len (by decide +kernel) (pa_cons (pv 2) pa_nil)) (nomark _))
 (pss_one ps_never)
 pss_nil)
 (pss_one (ps_ret (pv 3)))))), ?_⟩
    refine w_start (σ := [some C, some (.str (SX.S (textL S))), none, none, none]) rfl ?_
    repeat walk_at "st"
    refine w_isiStr (.str _) ?_
    repeat walk_at "st"
    refine ⟨_, rfl, ⟨_, rfl⟩, ?_⟩
    repeat walk_at "st"
    refine ⟨SX.S (textL S), " ", rfl, rfl, by decide, by rw [sx_len]; omega, fun p hp => ?_⟩
    rw [split_text, show ((wsOf S).map SX.S).map V.str = (wsOf S).map strW by rw [List.map_map]; rfl]
    have s1 := same_new (o := .lst ((wsOf S).map strW)) hp (Same.refl H)
    have hp1 : upd H p (.lst ((wsOf S).map strW)) p = some (.lst ((wsOf S).map strW)) := upd_same
    generalize upd H p (.lst ((wsOf S).map strW)) = H1 at s1 hp1 ⊢
    repeat walk_at "st"
    refine ⟨p, S, rfl, hp1, ok, q1, q2, fun t a H2 e2 hS ht => ?_⟩
    have hp2 := e2 _ _ hp1
    repeat walk_at "st"
    with_reducible refine w_seq ?_
    repeat walk_at "st"
    refine w_iteF (decide_eq_false (by rw [List.length_map]; omega)) ?_
    repeat walk_at "st"
    exact k a _ (s1.trans e2) hS
end

end Pt_read
section Pt_law45a
/-! ### the law's look at a setting's staircases -/
def upM (S : Sg) (n : Nat) : List Int := (List.range n).map fun i => leastO S (i + 1 : Nat)
def upF (S : Sg) (n : Nat) : List Int := (List.range n).map fun i => greatO S.lk S.ln (i + 1 : Nat)
def spSteps (K : PySem.W.Frag) : Sp := fun vs H Q _ => ∃ S a b n m, vs = [.str (SX.S (textL S)), .ref a, .ref b] ∧ SgOk S ∧ looseB S = false ∧ H a = some (.lst ((upM S n).map V.int)) ∧ H b = some (.lst ((upF S m).map V.int)) ∧ n ≤ 50 ∧ m ≤ 50 ∧ leastO S n ≤ 1000 ∧ greatO S.lk S.ln m ≤ 1000 ∧ ∀ H', Same H H' → Q (.bl true) H'
theorem upM_len (S : Sg) (n : Nat) : (upM S n).length = n := by simp [upM]
theorem upF_len (S : Sg) (n : Nat) : (upF S n).length = n := by simp [upF]
theorem upM_cons (S : Sg) (n : Nat) : (List.range (n + 1)).map (fun i => leastO S (i : Nat)) = 0 :: upM S n := by
  rw [List.range_succ_eq_map, List.map_cons, List.map_map]
  rfl
theorem upF_cons {S : Sg} (ok : SgOk S) (n : Nat) : (List.range (n + 1)).map (fun i => greatO S.lk S.ln (i : Nat)) = 0 :: upF S n := by
  rw [List.range_succ_eq_map, List.map_cons, List.map_map, show ((0 : Nat) : Int) = 0 from rfl, great_zero ok.lim]
  rfl
theorem upM_get {S : Sg} {n i : Nat} {y : V} (h : ((upM S n).map V.int)[i]? = some y) : i < n ∧ y = .int (leastO S (i + 1 : Nat)) := by
  rw [List.getElem?_map] at h
  unfold upM at h
  rw [List.getElem?_map] at h
  by_cases c : i < n
  · rw [List.getElem?_range c] at h
    exact ⟨c, (Option.some.inj h).symm⟩
  · rw [List.getElem?_eq_none (by rw [List.length_range]; omega)] at h
    cases h
theorem upF_get {S : Sg} {n i : Nat} {y : V} (h : ((upF S n).map V.int)[i]? = some y) : i < n ∧ y = .int (greatO S.lk S.ln (i + 1 : Nat)) := by
  rw [List.getElem?_map] at h
  unfold upF at h
  rw [List.getElem?_map] at h
  by_cases c : i < n
  · rw [List.getElem?_range c] at h
    exact ⟨c, (Option.some.inj h).symm⟩
  · rw [List.getElem?_eq_none (by rw [List.length_range]; omega)] at h
    cases h
theorem most_at {S : Sg} (ok : SgOk S) (lo : looseB S = false) {c z : Int} (c0 : 0 ≤ c) (h1 : leastO S c ≤ z) (h2 : z < leastO S (c + 1)) : MostR S z c :=
  ⟨c0, fun y => (by rw [lo] at y; cases y), h1, fun d hd hl => by
    have := least_mono ok (a := c + 1) (b := d) (by omega) (by omega) hl
    omega⟩
theorem few_at {k : LimK} {n c z : Int} (ok : limOk k n) (c0 : 0 ≤ c) (h1 : z ≤ greatO k n (c + 1)) (h2 : greatO k n c < z) : Least k n z (c + 1) :=
  ⟨by omega, h1, fun d h0 hd => by
    have := great_mono (k := k) (b := c) ok h0 (by omega)
    omega⟩
theorem w_neIntsX {K : PySem.W.Frag} {H : Hp} {Q : VK} {a b : Addr} {L : List Int} (ha : H a = some (.lst (L.map V.int))) (hb : H b = some (.lst (L.map V.int))) (q : Q (.bl false) H) : rNeD K (.ref a) (.ref b) H Q :=
  ⟨.list (L.map .int), .list (L.map .int), .lst (SqL.of ha) (dpAll_ints L), .lst (SqL.of hb) (dpAll_ints L), shaped_ints L, shaped_ints L, by rw [SeqAt.eqv_refl _ ((Bool.and_eq_true_iff.mp (shaped_ints L)).1)]; exact q⟩
theorem for_enumL {K : PySem.W.Frag} {a : Addr} {xs : List V} {ta : TA} {g : TG} {tb : TS} {D : Ends} {σ : L2.St} {H : Hp} (ha : H a = some (.lst xs)) (hta : ∀ R : List V → Hp → Prop, R [.ref a] H → ta σ H R) (Pv : Nat → L2.St → Hp → Prop) (h0 : Pv 0 σ H) (hS : ∀ i σ H', Pv i σ H' → H' a = some (.lst xs))
    (hs : ∀ i y T σ H, xs[i]? = some y → Pv i σ H → H T = none → g (.ref T) σ (upd H T (.tup [.int (i : Nat), y])) fun σ2 H2 => tb { D with nx := Pv (i + 1), ct := Pv (i + 1), bk := D.nx } σ2 H2) (hd : ∀ σ H, Pv xs.length σ H → D.nx σ H) :
    tFor (iEnum K ta) g tb D σ H := w_for (hta _ ⟨a, xs, rfl, SqL.of ha, for_ite Pv h0 (fun i σ H' p => SqL.of (hS i σ H' p)) hs hd⟩)
set_option hygiene false in
local macro_rules | `(tactic| walk_at "st") => `(tactic| (with_reducible first | refine w_cmeth ?_ | refine w_makeN ?_))
set_option hygiene false in
local macro_rules | `(tactic| walk_at "na") => `(tactic| first | exact T.na_few_setting | exact T.na_mst_setting)
set_option hygiene false in
local macro_rules | `(tactic| walk_at "cl") => `(tactic| first | exact T.cl_few | exact T.cl_mst)
theorem w_cmeth {σ : L2.St} {H : Hp} {Q : VK} {C : Addr} {sp : Sp} {E : XK} {ta : TE} {t : TA} (q : ta σ H fun x H1 => x = .ref C ∧ t σ H1 fun vs H2 => sp (.ref C :: vs) H2 Q E) : ClX.tCMeth C sp E ta t σ H Q := q
section
variable {P : Program} {w : World} {K : PySem.W.Frag} {mg : Str → Option Value} {base : Heap}
theorem b_Fewest___init__ (T : Txt K mg) (c_need_setting : Dn P w K mg base 1 "need_setting" s_need_setting ["value", "part"] (spNeedSet K)) : BodyOk P w K mg base 1 "Fewest.__init__" s_Fewest___init__ ["self", "setting"] (spFewInit K) := by
  refine fun fa cdv A outer s H vs Q E hr h => ?_
  obtain ⟨x, dx, a, S, rfl, hx, hS, k⟩ := h
  refine ⟨_, PSs.nox (pss_cons (ps_expr (pe_d c_need_setting hr (by decide) rfl (pa_cons (pv 1) (pa_cons pe_str pa_nil))))
 (pss_one (ps_fld (pv 0) (pv 1) rfl))), ?_⟩
  refine w_start (σ := [some (.ref x), some (.ref a)]) rfl ?_
  repeat walk_at "st"
  refine ⟨a, S, _, rfl, hS, ?_⟩
  repeat walk_at "st"
  exact k
theorem few_initK (T : Txt K mg) {f : Addr} (F : FA K "__init__" "Fewest.__init__" s_Fewest___init__ [] f) (c_need_setting : Dn P w K mg base 1 "need_setting" s_need_setting ["value", "part"] (spNeedSet K)) : FrK P w K mg base (1 + 1) f ["self", "setting"] ["setting"] [0, 1] (spFewInit K) :=
  frk_of F (fun _ _ _ _ _ _ us ws h1 h2 => match us, ws, h1, h2 with | [_], [_], _, _ => rfl) sc_Fewest___init__ (fun vs H Q E h => by obtain ⟨x, dx, a, S, rfl, _⟩ := h; rfl) (b_Fewest___init__ T c_need_setting)
theorem d_law_steps_right (T : Txt K mg) (F : FD K mg "_law_steps_right" s_law_steps_right) (c_most : Dn P w K mg base 14 "most" s_most ["setting", "n"] (spMost K)) (c_least_letters : Dn P w K mg base 11 "least_letters" s_least_letters ["setting", "c"] (spLeastL K)) (c_fewest : Dn P w K mg base 10 "fewest" s_fewest ["setting", "n"] (spFewest K)) (c_greatest_letters : Dn P w K mg base 8 "greatest_letters" s_greatest_letters ["setting", "c"] (spGreatL K)) (c_Most___init__ : Fr P w K mg base 2 (He.ma K (He.ga K "Most") "__init__") ["self", "setting"] [] (spMostInit K)) (c_Most___call__ : Fr P w K mg base 12 (He.ma K (He.ga K "Most") "__call__") ["self", "n"] [] (spMostCall K)) (c_Most___getitem__ : Fr P w K mg base 9 (He.ma K (He.ga K "Most") "__getitem__") ["self", "c"] [] (spMostItem K)) (c_Most___rfloordiv__ : Fr P w K mg base 12 (He.ma K (He.ga K "Most") "__rfloordiv__") ["self", "number"] [] (spMostCall K)) (c_Most___rmod__ : Fr P w K mg base 12 (He.ma K (He.ga K "Most") "__rmod__") ["self", "number"] [] (spMostMod K)) (c_Most___contains__ : Fr P w K mg base 12 (He.ma K (He.ga K "Most") "__contains__") ["self", "value"] [] (spMostIn K)) (c_Fewest___init__ : Fr P w K mg base 2 (He.ma K (He.ga K "Fewest") "__init__") ["self", "setting"] [] (spFewInit K)) (c_Fewest___call__ : Fr P w K mg base 8 (He.ma K (He.ga K "Fewest") "__call__") ["self", "n"] [] (spFewCall K)) (c_Fewest___getitem__ : Fr P w K mg base 6 (He.ma K (He.ga K "Fewest") "__getitem__") ["self", "c"] [] (spFewItem K)) (c_Fewest___rfloordiv__ : Fr P w K mg base 8 (He.ma K (He.ga K "Fewest") "__rfloordiv__") ["self", "number"] [] (spFewCall K)) (c_Fewest___rmod__ : Fr P w K mg base 8 (He.ma K (He.ga K "Fewest") "__rmod__") ["self", "number"] [] (spFewMod K)) (c_Fewest___contains__ : Fr P w K mg base 8 (He.ma K (He.ga K "Fewest") "__contains__") ["self", "value"] [] (spFewIn K)) (c_Setting_read : Fr P w K mg base 8 (He5.wf K (He.ga K "Setting") "classmethod" "read") ["cls", "text"] [] (spSetRead K)) (c_few_initK : FrK P w K mg base 2 (He.ma K (He.ga K "Fewest") "__init__") ["self", "setting"] ["setting"] [0, 1] (spFewInit K)) : Dn P w K mg base 17 "_law_steps_right" s_law_steps_right ["text", "steps", "slow"] (spSteps K) := by
  refine dn_of F (fun _ _ _ _ _ _ us hl => match us, hl with | [_, _, _], _ => rfl) sc_law_steps_right (fun vs H Q E h => ?_) (fun fa cdv A outer s H vs Q E hr h => ?_)
  · obtain ⟨S, a, b, n, m, rfl, _⟩ := h
    rfl
  · obtain ⟨S, a, b, n, m, rfl, ok, lo, ha, hb, n50, m50, bn, bm, k⟩ := h
    have sz := sizeLine_eq
    have tm : ∀ z, TellsM S z := fun z y => by rw [lo] at y; cases y
    have tc : ∀ z, TellsC S z := fun z y => by rw [lo] at y; cases y
    refine ⟨_, PSs.nox (pss_cons (ps_set (i := 3) sc_law_steps_right.nd rfl (Or.inl rfl) (pe_cmt c_Setting_read T.cr_Setting T.cm_read hr (by decide) (pe_gc rfl (T.gc_Setting)) (pa_cons (pv 0) pa_nil)))
 (pss_cons (ps_asg (pe_tup (pa_cons (pe_mk c_Most___init__ T.mk_mst T.gc_mst hr (by decide) rfl (pa_cons (pv 3) pa_nil)) (pa_cons (pe_mkK c_few_initK T.mk_few T.gc_few hr (by decide) rfl (pk_cons (pv 3) pk_nil)) pa_nil))) (pg_tup rfl (pgs_cons (pg_name (i := 4) sc_law_steps_right.nd rfl (Or.inr rfl)) (pgs_cons (pg_name (i := 5) sc_law_steps_right.nd rfl (Or.inr rfl)) pgs_nil))))
 (pss_cons (ps_if (PW.pt (pw_or (pt_cmpR (op_neD hr.units) (pe_lc (own := [("at", 6)]) (tt := tYes) (g := gName 6) rfl sc_law_steps_right.nd (pi_range1 rfl T.n_range (pa_cons (pe_op op_add (pe_callB cl_lenQ (by rfl) T.n_len (by decide +kernel) (pa_cons (pv 1) pa_nil)) pe_int) pa_nil)) (blkOk_by (N := ["text", "steps", "slow", "made", "rising", "lasting", "at", "size"]) (sc := defScope s_law_steps_right) (by decide +kernel)) (fun _ _ _ _ _ => (pg_name (i := 6) sc_law_steps_right.nd rfl (Or.inl rfl))) (fun _ _ _ _ _ => pts_nil) (fun _ _ _ _ _ => (pe_ixO c_Most___getitem__ T.sp_mst_item T.fi_mst_item hr (by decide) (pv 4) (pv 6)))) (pe_op op_cat (pe_lst (pa_cons pe_int pa_nil)) (pv 1)) (nomark _)) (pw_or1 (pt_cmpR (op_neD hr.units) (pe_lc (own := [("at", 6)]) (tt := tYes) (g := gName 6) rfl sc_law_steps_right.nd (pi_range1 rfl T.n_range (pa_cons (pe_op op_add (pe_callB cl_lenQ (by rfl) T.n_len (by decide +kernel) (pa_cons (pv 2) pa_nil)) pe_int) pa_nil)) (blkOk_by (N := ["text", "steps", "slow", "made", "rising", "lasting", "at", "size"]) (sc := defScope s_law_steps_right) (by decide +kernel)) (fun _ _ _ _ _ => (pg_name (i := 6) sc_law_steps_right.nd rfl (Or.inl rfl))) (fun _ _ _ _ _ => pts_nil) (fun _ _ _ _ _ => (pe_ixO c_Fewest___getitem__ T.sp_few_item T.fi_few_item hr (by decide) (pv 5) (pv 6)))) (pe_op op_cat (pe_lst (pa_cons pe_int pa_nil)) (pv 2)) (nomark _)))))
 (pss_one (ps_ret pe_bl))
 pss_nil)
 (pss_cons (ps_for PassesOwn.never rfl (pi_enum (by rfl) T.n_enumerate (pa_cons (pv 1) pa_nil)) (pg_tup rfl (pgs_cons (pg_name (i := 6) sc_law_steps_right.nd rfl (Or.inl rfl)) (pgs_cons (pg_name (i := 7) sc_law_steps_right.nd rfl (Or.inl rfl)) pgs_nil)))
 (pss_cons (ps_if (pt_cmpR (op_neD hr.units) (pe_lst (pa_cons (pe_ci c_Most___call__ T.ca_mst hr (by decide) (pv 4) (pa_cons (pv 7) pa_nil)) (pa_cons (pe_dN c_most hr (by decide) rfl kw0 (pa_cons (pv 3) pa_nil) (pk_cons (pv 7) pk_nil)) (pa_cons (pe_op (op_rdiv c_Most___rfloordiv__ T.sp_mst_rdiv hr (by decide)) (pv 7) (pv 4)) (pa_cons (pe_op (op_rmod c_Most___rmod__ T.sp_mst_rmod hr (by decide)) (pv 7) (pv 4)) pa_nil))))) (pe_lst (pa_cons (pe_op op_add (pv 6) pe_int) (pa_cons (pe_op op_add (pv 6) pe_int) (pa_cons (pe_op op_add (pv 6) pe_int) (pa_cons pe_int pa_nil))))) (nomark _))
 (pss_one (ps_ret pe_bl))
 pss_nil)
 (pss_one (ps_if (PW.pt (pw_or (pt_cmpR op_ne (pe_ci c_Most___call__ T.ca_mst hr (by decide) (pv 4) (pa_cons (pe_op op_sub (pv 7) pe_int) pa_nil)) (pv 6) (nomark _)) (pw_or (pt_not (pt_cmpR (op_inO c_Most___contains__ T.sp_mst_in hr (by decide)) (pv 7) (pv 4) (by rfl))) (pw_or1 (pt_cmpR op_ne (pe_dN c_least_letters hr (by decide) rfl kw1 (pa_cons (pv 3) pa_nil) (pk_cons (pe_op op_add (pv 6) pe_int) pk_nil)) (pv 7) (nomark _))))))
 (pss_one (ps_ret pe_bl))
 pss_nil))))
 (pss_cons (ps_for PassesOwn.never rfl (pi_enum (by rfl) T.n_enumerate (pa_cons (pv 2) pa_nil)) (pg_tup rfl (pgs_cons (pg_name (i := 6) sc_law_steps_right.nd rfl (Or.inl rfl)) (pgs_cons (pg_name (i := 7) sc_law_steps_right.nd rfl (Or.inl rfl)) pgs_nil)))
 (pss_cons (ps_if (pt_cmpR (op_neD hr.units) (pe_lst (pa_cons (pe_ci c_Fewest___call__ T.ca_few hr (by decide) (pv 5) (pa_cons (pv 7) pa_nil)) (pa_cons (pe_dN c_fewest hr (by decide) rfl kw2 (pa_cons (pv 3) pa_nil) (pk_cons (pv 7) pk_nil)) (pa_cons (pe_op (op_rdiv c_Fewest___rfloordiv__ T.sp_few_rdiv hr (by decide)) (pv 7) (pv 5)) (pa_cons (pe_op (op_rmod c_Fewest___rmod__ T.sp_few_rmod hr (by decide)) (pv 7) (pv 5)) pa_nil))))) (pe_lst (pa_cons (pe_op op_add (pv 6) pe_int) (pa_cons (pe_op op_add (pv 6) pe_int) (pa_cons (pe_op op_add (pv 6) pe_int) (pa_cons pe_int pa_nil))))) (nomark _))
 (pss_one (ps_ret pe_bl))
 pss_nil)
 (pss_one (ps_if (PW.pt (pw_or (pt_cmpR op_ne (pe_ci c_Fewest___call__ T.ca_few hr (by decide) (pv 5) (pa_cons (pe_op op_add (pv 7) pe_int) pa_nil)) (pe_op op_add (pv 6) pe_int) (nomark _)) (pw_or (pt_not (pt_cmpR (op_inO c_Fewest___contains__ T.sp_few_in hr (by decide)) (pv 7) (pv 5) (by rfl))) (pw_or1 (pt_cmpR op_ne (pe_dN c_greatest_letters hr (by decide) rfl kw3 (pa_cons (pv 3) pa_nil) (pk_cons (pe_op op_add (pv 6) pe_int) pk_nil)) (pv 7) (nomark _))))))
 (pss_one (ps_ret pe_bl))
 pss_nil))))
 (pss_one (ps_ret pe_bl))))))), ?_⟩
    refine w_start (σ := [some (.str (SX.S (textL S))), some (.ref a), some (.ref b), none, none, none, none, none]) rfl ?_
    repeat walk_at "st"
    refine ⟨rfl, ?_⟩
    repeat walk_at "st"
    refine ⟨_, S, rfl, ok.lim, ok.q1, ok.q2, fun m1 H1 e1 hS1 => ?_⟩
    repeat walk_at "st"
    refine fun x dx hx hdx ne => ⟨x, dx, m1, S, rfl, upd_same, hS1.same (same_two hx hdx), rfl, ?_⟩
    have e2 : Same H1 (upd (upd (upd H1 dx (.own x)) x (.ins (cMst K) dx [])) x (.ins (cMst K) dx [("setting", .ref m1)])) := same_threeM hx hdx
    have hM2 : MstAt K (upd (upd (upd H1 dx (.own x)) x (.ins (cMst K) dx [])) x (.ins (cMst K) dx [("setting", .ref m1)])) x S := ⟨dx, m1, upd_same, hS1.same e2⟩
    generalize upd (upd (upd H1 dx (.own x)) x (.ins (cMst K) dx [])) x (.ins (cMst K) dx [("setting", .ref m1)]) = H2 at e2 hM2 ⊢
    have hS2 := hS1.same e2
    repeat walk_at "st"
    refine ⟨rfl, rfl, fun y dy hy hdy ney => ?_⟩
    show spFewInit K [.ref y, .ref m1] _ _ _
    refine ⟨y, dy, m1, S, rfl, upd_same, hS2.same (same_two hy hdy), rfl, ?_⟩
    have e3 : Same H2 (upd (upd (upd H2 dy (.own y)) y (.ins (cFew K) dy [])) y (.ins (cFew K) dy [("setting", .ref m1)])) := same_threeM hy hdy
    have hF3 : FewAt K (upd (upd (upd H2 dy (.own y)) y (.ins (cFew K) dy [])) y (.ins (cFew K) dy [("setting", .ref m1)])) y S := ⟨dy, m1, upd_same, hS2.same e3⟩
    generalize upd (upd (upd H2 dy (.own y)) y (.ins (cFew K) dy [])) y (.ins (cFew K) dy [("setting", .ref m1)]) = H3 at e3 hF3 ⊢
    have hS3 := hS2.same e3
    have hM3 := hM2.same e3
    have e03 := (e1.trans e2).trans e3
    have ha3 := e03 _ _ ha
    have hb3 := e03 _ _ hb
    repeat walk_at "st"
    refine ⟨by walk_at "len", fun tp htp => ?_⟩
    have e4 := same_new (o := .tup [.ref x, .ref y]) htp (Same.refl H3)
    have f4 : upd H3 tp (.tup [.ref x, .ref y]) tp = some (.tup [.ref x, .ref y]) := upd_same
    generalize upd H3 tp (.tup [.ref x, .ref y]) = H4 at e4 f4 ⊢
    have hS4 := hS3.same e4
    have hM4 := hM3.same e4
    have hF4 := hF3.same e4
    have ha4 := e4 _ _ ha3
    have hb4 := e4 _ _ hb3
    have e04 := e03.trans e4
    repeat walk_at "st"
    with_reducible refine w_seq ?_
    repeat walk_at "st"
    have hmM : (List.range (n + 1)).map (fun j : Nat => V.int (leastO S (j : Nat))) = (0 :: upM S n).map V.int := by
      rw [← upM_cons, List.map_map]
      rfl
    have hmF : (List.range (m + 1)).map (fun j : Nat => V.int (greatO S.lk S.ln (j : Nat))) = (0 :: upF S m).map V.int := by
      rw [← upF_cons ok, List.map_map]
      rfl
    refine lc_rng1 H4 (n + 1) (fun j : Nat => .int (leastO S (j : Nat))) (fun R hR => ?_) (by omega) (fun j hj H' e R hR => ?_) fun la H5 hla e5 hl5 => ?_
    · repeat walk_at "st"
      rw [List.length_map, upM_len]
      exact hR
    · simp only [wipe, List.map, List.set]
      obtain ⟨dx', a', hx', hS'⟩ := hM4.same e
      repeat walk_at "st"
      refine ⟨x, dx', _, rfl, hx', x, S, _, rfl, ⟨dx', a', hx', hS'⟩, ok, ⟨by omega, by omega⟩, tc _, fun H'' e' => ?_⟩
      rw [Int.zero_add]
      exact hR H'' e'
    rw [hmM] at hl5
    have ha5 := e5 _ _ ha4
    repeat walk_at "st"
    refine ⟨by walk_at "len", fun p1 hp1 => ?_⟩
    have e6 := same_new (o := .lst [.int 0]) hp1 (Same.refl H5)
    have f6 : upd H5 p1 (.lst [.int 0]) p1 = some (.lst ([0].map V.int)) := upd_same
    generalize upd H5 p1 (.lst [.int 0]) = H6 at e6 f6 ⊢
    have ha6 := e6 _ _ ha5
    have hl6 := e6 _ _ hl5
    repeat walk_at "st"
    refine w_catF f6 ha6 (by rw [upM_len]; show 1 + _ ≤ _; omega) fun p2 hp2 => ?_
    have e7 := same_new (o := .lst (([0] ++ upM S n).map V.int)) hp2 (Same.refl H6)
    have f7 : upd H6 p2 (.lst (([0] ++ upM S n).map V.int)) p2 = some (.lst ((0 :: upM S n).map V.int)) := upd_same
    generalize upd H6 p2 (.lst (([0] ++ upM S n).map V.int)) = H7 at e7 f7 ⊢
    have hl7 := e7 _ _ hl6
    refine w_neIntsX hl7 f7 ?_
    have e47 := (e5.trans e6).trans e7
    have hF7 := hF4.same e47
    have hM7 := hM4.same e47
    have hS7 := hS4.same e47
    have ha7 := e47 _ _ ha4
    have hb7 := e47 _ _ hb4
    have e07 := e04.trans e47
    repeat walk_at "st"
    refine lc_rng1 H7 (m + 1) (fun j : Nat => .int (greatO S.lk S.ln (j : Nat))) (fun R hR => ?_) (by omega) (fun j hj H' e R hR => ?_) fun lb H8 hlb e8 hl8 => ?_
    · repeat walk_at "st"
      rw [List.length_map, upF_len]
      exact hR
    · simp only [wipe, List.map, List.set]
      obtain ⟨dx', a', hx', hS'⟩ := hF7.same e
      repeat walk_at "st"
      refine ⟨y, dx', _, rfl, hx', y, S, _, rfl, ⟨dx', a', hx', hS'⟩, ok.lim, ⟨by omega, by omega⟩, ?_⟩
      rw [Int.zero_add]
      exact hR H' (Same.refl _)
    rw [hmF] at hl8
    have hb8 := e8 _ _ hb7
    repeat walk_at "st"
    refine ⟨by walk_at "len", fun p3 hp3 => ?_⟩
    have e9 := same_new (o := .lst [.int 0]) hp3 (Same.refl H8)
    have f9 : upd H8 p3 (.lst [.int 0]) p3 = some (.lst ([0].map V.int)) := upd_same
    generalize upd H8 p3 (.lst [.int 0]) = H9 at e9 f9 ⊢
    have hb9 := e9 _ _ hb8
    have hl9 := e9 _ _ hl8
    repeat walk_at "st"
    refine w_catF f9 hb9 (by rw [upF_len]; show 1 + _ ≤ _; omega) fun p4 hp4 => ?_
    have e10 := same_new (o := .lst (([0] ++ upF S m).map V.int)) hp4 (Same.refl H9)
    have f10 : upd H9 p4 (.lst (([0] ++ upF S m).map V.int)) p4 = some (.lst ((0 :: upF S m).map V.int)) := upd_same
    generalize upd H9 p4 (.lst (([0] ++ upF S m).map V.int)) = HA at e10 f10 ⊢
    have hl10 := e10 _ _ hl9
    refine w_neIntsX hl10 f10 ?_
    have e7A := (e8.trans e9).trans e10
    have hFA := hF7.same e7A
    have hMA := hM7.same e7A
    have hSA := hS7.same e7A
    have haA := e7A _ _ ha7
    have hbA := e7A _ _ hb7
    have e0A := e07.trans e7A
    repeat walk_at "st"
    with_reducible refine w_seq ?_
    refine for_enumL haA (fun R hR => ?_) (fun i σ' H' => ∃ o6 o7, σ' = [some (.str (SX.S (textL S))), some (.ref a), some (.ref b), some (.ref m1), some (.ref x), some (.ref y), o6, o7] ∧ Same HA H') ⟨_, _, rfl, Same.refl HA⟩ (fun i σ' H' ⟨_, _, _, e⟩ => e _ _ haA) ?_ ?_
    · repeat walk_at "st"
      exact hR
    · rintro i v t σ' HB hv ⟨o6, o7, rfl, eB⟩ ht
      obtain ⟨hi, rfl⟩ := upM_get hv
      obtain ⟨z, hz⟩ : ∃ z, z = leastO S (i + 1 : Nat) := ⟨_, rfl⟩
      rw [← hz]
      have eC := same_new (o := .tup [.int (i : Nat), .int z]) (same_free eB ht) eB
      have fC : upd HB t (.tup [.int (i : Nat), .int z]) t = some (.tup [.int (i : Nat), .int z]) := upd_same
      generalize upd HB t (.tup [.int (i : Nat), .int z]) = HC at eC fC ⊢
      have z1 : (i : Int) + 1 ≤ z := by rw [hz]; exact least_ge ok (by omega) (tc _)
      have z2 : z ≤ 1000 := by
        have := least_mono ok (a := ((i + 1 : Nat) : Int)) (b := (n : Int)) (by omega) (by omega) (tc _)
        omega
      have bz : BigI z := ⟨by omega, by omega⟩
      have st := least_step ok (c := (i : Int)) (by omega) (fun y => by rw [lo] at y; cases y)
      have st2 := least_step ok (c := ((i + 1 : Nat) : Int)) (by omega) (fun y => by rw [lo] at y; cases y)
      have hr : MostR S z ((i + 1 : Nat) : Int) := most_at ok lo (by omega) (by omega) (by omega)
      have hr' : MostR S (z - 1) (i : Int) := most_at ok lo (by omega) (by rw [hz]; show _ ≤ leastO S ((i : Int) + 1) - 1; omega) (by rw [hz]; show leastO S ((i : Int) + 1) - 1 < _; omega)
      have hMC := hMA.same eC
      have hSC := hSA.same eC
      obtain ⟨dxC, aC, hxC, _⟩ := id hMC
      repeat walk_at "st"
      with_reducible refine w_seq ?_
      repeat walk_at "st"
      refine ⟨⟨_, _, hxC⟩, x, S, z, rfl, hMC, ok, bz, tm _, fun r1 HD hr1 _ eD => ?_⟩
      rw [hr1.one hr]
      repeat walk_at "st"
      refine ⟨rfl, rfl, ?_⟩
      show spMost K [.ref m1, .int z] _ _ _
      have hSD := hSC.same eD
      refine ⟨m1, S, z, rfl, hSD, ok, bz, tm _, fun r2 HE hr2 eE => ?_⟩
      rw [hr2.one hr]
      have hME := (hMC.same eD).same eE
      have hxE := eE _ _ (eD _ _ hxC)
      repeat walk_at "st"
      refine ⟨x, dxC, _, z, rfl, rfl, hxE, x, S, z, rfl, hME, ok, bz, tm _, fun r3 HF hr3 _ eF => ?_⟩
      rw [hr3.one hr]
      refine ⟨_, rfl, ?_⟩
      have hMF := hME.same eF
      have hxF := eF _ _ hxE
      repeat walk_at "st"
      refine ⟨x, dxC, _, z, rfl, rfl, hxF, x, S, z, rfl, hMF, ok, bz, tm _, fun r4 HG hr4 eG => ?_⟩
      rw [hr4.one hr, show z - leastO S ((i + 1 : Nat) : Int) = 0 by omega]
      refine ⟨_, rfl, ?_⟩
      have eCG := ((eD.trans eE).trans eF).trans eG
      repeat walk_at "st"
      refine ⟨by walk_at "len", fun q1 hq1 => ?_⟩
      have eH := same_new (o := .lst [.int ((i + 1 : Nat) : Int), .int ((i + 1 : Nat) : Int), .int ((i + 1 : Nat) : Int), .int 0]) hq1 (Same.refl HG)
      have fH : upd HG q1 (.lst [.int ((i + 1 : Nat) : Int), .int ((i + 1 : Nat) : Int), .int ((i + 1 : Nat) : Int), .int 0]) q1 = some (.lst ([(i : Int) + 1, (i : Int) + 1, (i : Int) + 1, 0].map V.int)) := upd_same
      generalize upd HG q1 (.lst [.int ((i + 1 : Nat) : Int), .int ((i + 1 : Nat) : Int), .int ((i + 1 : Nat) : Int), .int 0]) = HH at eH fH ⊢
      repeat walk_at "st"
      refine ⟨by walk_at "len", fun q2 hq2 => ?_⟩
      have eI := same_new (o := .lst [.int ((i : Int) + 1), .int ((i : Int) + 1), .int ((i : Int) + 1), .int 0]) hq2 (Same.refl HH)
      have fI : upd HH q2 (.lst [.int ((i : Int) + 1), .int ((i : Int) + 1), .int ((i : Int) + 1), .int 0]) q2 = some (.lst ([(i : Int) + 1, (i : Int) + 1, (i : Int) + 1, 0].map V.int)) := upd_same
      generalize upd HH q2 (.lst [.int ((i : Int) + 1), .int ((i : Int) + 1), .int ((i : Int) + 1), .int 0]) = HI at eI fI ⊢
      refine w_neIntsX (eI _ _ fH) fI ?_
      have eCI := (eCG.trans eH).trans eI
      have hMI := hMC.same eCI
      have hSI := hSC.same eCI
      have hxI := eCI _ _ hxC
      have bz1 : BigI (z - 1) := ⟨by omega, by omega⟩
      repeat walk_at "st"
      refine ⟨⟨_, _, hxI⟩, x, S, z - 1, rfl, hMI, ok, bz1, tm _, fun r5 HJ hr5 _ eJ => ?_⟩
      rw [hr5.one hr']
      have hMJ := hMI.same eJ
      have hSJ := hSI.same eJ
      have hxJ := eJ _ _ hxI
      repeat walk_at "st"
      refine w_iteF (by simp) ?_
      repeat walk_at "st"
      refine ⟨x, dxC, _, rfl, hxJ, x, S, z, rfl, hMJ, ok, bz, tm _, fun r6 HK hr6 eK => ?_⟩
      rw [hr6.one hr, decide_eq_true hz.symm]
      refine ⟨_, rfl, ?_⟩
      repeat walk_at "st"
      refine ⟨rfl, rfl, ?_⟩
      show spLeastL K [.ref m1, .int ((i : Int) + 1)] _ _ _
      refine ⟨m1, S, _, rfl, hSJ.same eK, ok, ⟨by omega, by omega⟩, tc _, fun HL eL => ?_⟩
      repeat walk_at "st"
      refine w_iteF (by rw [hz]; show (!decide (V.int (leastO S ((i : Int) + 1)) = V.int (leastO S ((i : Int) + 1)))) = false; simp) ?_
      repeat walk_at "st"
      exact ⟨_, _, rfl, (((eC.trans eCI).trans eJ).trans eK).trans eL⟩
    · rintro σ' HB ⟨o6, o7, rfl, eB⟩
      have hbB := eB _ _ hbA
      have hFB := hFA.same eB
      have hSB := hSA.same eB
      have e0B := e0A.trans eB
      repeat walk_at "st"
      with_reducible refine w_seq ?_
      refine for_enumL hbB (fun R hR => ?_) (fun i σ' H' => ∃ o6 o7, σ' = [some (.str (SX.S (textL S))), some (.ref a), some (.ref b), some (.ref m1), some (.ref x), some (.ref y), o6, o7] ∧ Same HB H') ⟨_, _, rfl, Same.refl HB⟩ (fun i σ' H' ⟨_, _, _, e⟩ => e _ _ hbB) ?_ ?_
      · repeat walk_at "st"
        exact hR
      · rintro i v t σ' HC0 hv ⟨o6, o7, rfl, eC0⟩ ht
        obtain ⟨hi, rfl⟩ := upF_get hv
        obtain ⟨z, hz⟩ : ∃ z, z = greatO S.lk S.ln (i + 1 : Nat) := ⟨_, rfl⟩
        rw [← hz]
        have eC := same_new (o := .tup [.int (i : Nat), .int z]) (same_free eC0 ht) eC0
        have fC : upd HC0 t (.tup [.int (i : Nat), .int z]) t = some (.tup [.int (i : Nat), .int z]) := upd_same
        generalize upd HC0 t (.tup [.int (i : Nat), .int z]) = HC at eC fC ⊢
        have z1 : (i : Int) + 1 ≤ z := by rw [hz]; exact great_ge ok.lim (by omega)
        have z2 : z ≤ 1000 := by
          have := great_mono (k := S.lk) (a := ((i + 1 : Nat) : Int)) (b := (m : Int)) ok.lim (by omega) (by omega)
          omega
        have bz : BigI z := ⟨by omega, by omega⟩
        have st : greatO S.lk S.ln (i : Int) + 1 ≤ greatO S.lk S.ln ((i : Int) + 1) := great_grow (k := S.lk) ok.lim 1 (i : Int) (by omega)
        have st2 : greatO S.lk S.ln ((i : Int) + 1) + 1 ≤ greatO S.lk S.ln ((i : Int) + 1 + 1) := great_grow (k := S.lk) ok.lim 1 ((i : Int) + 1) (by omega)
        have hr : Least S.lk S.ln z ((i : Int) + 1) := few_at ok.lim (by omega) (by rw [hz]; exact Int.le_refl _) (by rw [hz]; show _ < greatO S.lk S.ln ((i : Int) + 1); omega)
        have hr' : Least S.lk S.ln (z + 1) ((i : Int) + 1 + 1) := few_at ok.lim (by omega) (by rw [hz]; show greatO S.lk S.ln ((i : Int) + 1) + 1 ≤ _; omega) (by rw [hz]; show greatO S.lk S.ln ((i : Int) + 1) < greatO S.lk S.ln ((i : Int) + 1) + 1; omega)
        have hFC := hFB.same eC
        have hSC := hSB.same eC
        obtain ⟨dxC, aC, hxC, _⟩ := id hFC
        repeat walk_at "st"
        with_reducible refine w_seq ?_
        repeat walk_at "st"
        refine ⟨⟨_, _, hxC⟩, y, S, z, rfl, hFC, ok.lim, bz, fun r1 hr1 => ?_⟩
        rw [hr1.one hr]
        repeat walk_at "st"
        refine ⟨rfl, rfl, ?_⟩
        show spFewest K [.ref m1, .int z] _ _ _
        refine ⟨m1, S, z, rfl, hSC, ok.lim, bz, fun r2 HE eE hr2 => ?_⟩
        rw [hr2.one hr]
        have hFE := hFC.same eE
        have hxE := eE _ _ hxC
        repeat walk_at "st"
        refine ⟨y, dxC, _, z, rfl, rfl, hxE, y, S, z, rfl, hFE, ok.lim, bz, fun r3 hr3 => ?_⟩
        rw [hr3.one hr]
        refine ⟨_, rfl, ?_⟩
        repeat walk_at "st"
        refine ⟨y, dxC, _, z, rfl, rfl, hxE, y, S, z, rfl, hFE, ok.lim, bz, fun r4 hr4 => ?_⟩
        rw [hr4.one hr, show greatO S.lk S.ln ((i : Int) + 1) - z = 0 by rw [hz]; show greatO S.lk S.ln ((i : Int) + 1) - greatO S.lk S.ln ((i : Int) + 1) = 0; omega]
        refine ⟨_, rfl, ?_⟩
        repeat walk_at "st"
        refine ⟨by walk_at "len", fun q1 hq1 => ?_⟩
        have eH := same_new (o := .lst [.int ((i : Int) + 1), .int ((i : Int) + 1), .int ((i : Int) + 1), .int 0]) hq1 (Same.refl HE)
        have fH : upd HE q1 (.lst [.int ((i : Int) + 1), .int ((i : Int) + 1), .int ((i : Int) + 1), .int 0]) q1 = some (.lst ([(i : Int) + 1, (i : Int) + 1, (i : Int) + 1, 0].map V.int)) := upd_same
        generalize upd HE q1 (.lst [.int ((i : Int) + 1), .int ((i : Int) + 1), .int ((i : Int) + 1), .int 0]) = HH at eH fH ⊢
        repeat walk_at "st"
        refine ⟨by walk_at "len", fun q2 hq2 => ?_⟩
        have eI := same_new (o := .lst [.int ((i : Int) + 1), .int ((i : Int) + 1), .int ((i : Int) + 1), .int 0]) hq2 (Same.refl HH)
        have fI : upd HH q2 (.lst [.int ((i : Int) + 1), .int ((i : Int) + 1), .int ((i : Int) + 1), .int 0]) q2 = some (.lst ([(i : Int) + 1, (i : Int) + 1, (i : Int) + 1, 0].map V.int)) := upd_same
        generalize upd HH q2 (.lst [.int ((i : Int) + 1), .int ((i : Int) + 1), .int ((i : Int) + 1), .int 0]) = HI at eI fI ⊢
        refine w_neIntsX (eI _ _ fH) fI ?_
        have eCI := (eE.trans eH).trans eI
        have hFI := hFC.same eCI
        have hSI := hSC.same eCI
        have hxI := eCI _ _ hxC
        have bz1 : BigI (z + 1) := ⟨by omega, by omega⟩
        repeat walk_at "st"
        refine ⟨⟨_, _, hxI⟩, y, S, z + 1, rfl, hFI, ok.lim, bz1, fun r5 hr5 => ?_⟩
        rw [hr5.one hr']
        repeat walk_at "st"
        refine w_iteF (by simp; omega) ?_
        repeat walk_at "st"
        refine ⟨y, dxC, _, rfl, hxI, y, S, z, rfl, hFI, ok.lim, bz, fun r6 hr6 => ?_⟩
        rw [hr6.one hr, decide_eq_true (show greatO S.lk S.ln ((i : Int) + 1) = z from hz.symm)]
        refine ⟨_, rfl, ?_⟩
        repeat walk_at "st"
        refine ⟨rfl, rfl, ?_⟩
        show spGreatL K [.ref m1, .int ((i : Int) + 1)] _ _ _
        refine ⟨m1, S, _, rfl, hSI, ok.lim, ⟨by omega, by omega⟩, fun HL eL => ?_⟩
        repeat walk_at "st"
        refine w_iteF (by rw [hz]; show (!decide (V.int (greatO S.lk S.ln ((i : Int) + 1)) = V.int (greatO S.lk S.ln ((i : Int) + 1)))) = false; simp) ?_
        repeat walk_at "st"
        exact ⟨_, _, rfl, (eC.trans eCI).trans eL⟩
      · rintro σ' HC ⟨o6, o7, rfl, eC⟩
        repeat walk_at "st"
        exact k HC (e0B.trans eC)
end

end Pt_law45a
section Pt_lawsp
def spLaw (K : PySem.W.Frag) : Sp := fun vs H Q _ => ∃ (a : Addr) (ns : List Int), vs = [.ref a] ∧ SqL K H a (ns.map V.int) ∧ ∀ H', Q (.bl true) H'
theorem law_start {K : PySem.W.Frag} {H : Hp} {a : Addr} {ns : List Int} (hS : SqL K H a (ns.map V.int)) (hl : ns.length ≤ 63) : spLaw K [.ref a] H (fun v _ => v = .bl true) fun _ _ _ => False := ⟨a, ns, rfl, hS, fun _ => rfl⟩

end Pt_lawsp
section Pt_law45
/-! ### the law -/
abbrev Ent := Sg × Nat × Nat
def EntAt (H : Hp) (ss : Addr) (t : Addr) (d : Ent) : Prop := ∃ a b, a ≠ ss ∧ b ≠ ss ∧ H t = some (.tup [.str (SX.S (textL d.1)), .ref a, .ref b]) ∧ H a = some (.lst ((upM d.1 d.2.1).map V.int)) ∧ H b = some (.lst ((upF d.1 d.2.2).map V.int))
def EntF (H H' : Hp) (t : Addr) (d : Ent) : Prop := ∃ a b, H a = none ∧ H b = none ∧ H' t = some (.tup [.str (SX.S (textL d.1)), .ref a, .ref b]) ∧ H' a = some (.lst ((upM d.1 d.2.1).map V.int)) ∧ H' b = some (.lst ((upF d.1 d.2.2).map V.int))
theorem EntF.of {H H' : Hp} {ss t : Addr} {d : Ent} {o : HO} (h : EntF H H' t d) (hs : H ss = some o) : EntAt H' ss t d := let ⟨a, b, h1, h2, h3⟩ := h; ⟨a, b, (ne_of_none hs h1).symm, (ne_of_none hs h2).symm, h3⟩
theorem EntF.of0 {H H' : Hp} {ss t : Addr} {d : Ent} (h : EntF H H' t d) (hs : H' ss = none) : EntAt H' ss t d := let ⟨a, b, h1, h2, h3, h4, h5⟩ := h; ⟨a, b, ne_of_none h4 hs, ne_of_none h5 hs, h3, h4, h5⟩
theorem EntAt.same {H H' : Hp} {ss t : Addr} {d : Ent} (e : Same H H') (h : EntAt H ss t d) : EntAt H' ss t d := let ⟨a, b, n1, n2, h1, h2, h3⟩ := h; ⟨a, b, n1, n2, e _ _ h1, e _ _ h2, e _ _ h3⟩
def SomeAt (H : Hp) (ss : Addr) (ds : List Ent) : Prop := ∃ ts : List Addr, H ss = some (.lst (ts.map V.ref)) ∧ ts.length = ds.length ∧ ∀ (j : Nat) (t : Addr) (d : Ent), ts[j]? = some t → ds[j]? = some d → EntAt H ss t d
theorem SomeAt.same {H H' : Hp} {ss : Addr} {ds : List Ent} (e : Same H H') (h : SomeAt H ss ds) : SomeAt H' ss ds := let ⟨ts, h1, h2, h3⟩ := h; ⟨ts, e _ _ h1, h2, fun j t d a b => (h3 j t d a b).same e⟩
theorem ent_new {ta tb : TA} {σ : L2.St} {H : Hp} {Q : VK} {s : Str} (L M : List Int) (d : Ent) (hs : s = SX.S (textL d.1)) (hL : L = upM d.1 d.2.1) (hM : M = upF d.1 d.2.2) (hl : d.2.1 ≤ 50 ∧ d.2.2 ≤ 50) (ha : ∀ (H : Hp) (R : List V → Hp → Prop), R (L.map V.int) H → ta σ H R) (hb : ∀ (H : Hp) (R : List V → Hp → Prop), R (M.map V.int) H → tb σ H R)
    (q : ∀ t H', H t = none → Same H H' → EntF H H' t d → Q (.ref t) H') : tTup (tCons (tC (.str s)) (tCons (tLst ta) (tCons (tLst tb) tNil))) σ H Q := by
  have sz := sizeLine_eq
  have l1 : L.length = d.2.1 := by rw [hL, upM_len]
  have l2 : M.length = d.2.2 := by rw [hM, upF_len]
  show ta σ H fun xs H1 => xs.length ≤ sizeLine ∧ ∀ p, H1 p = none → _
  refine ha H _ ⟨by rw [List.length_map]; omega, fun p1 hp1 => ?_⟩
  have e1 := same_new (o := .lst (L.map V.int)) hp1 (Same.refl H)
  have f1 : upd H p1 (.lst (L.map V.int)) p1 = some (.lst (L.map V.int)) := upd_same
  generalize upd H p1 (.lst (L.map V.int)) = H1 at e1 f1 ⊢
  show tb σ H1 fun xs H2 => xs.length ≤ sizeLine ∧ ∀ p, H2 p = none → _
  refine hb H1 _ ⟨by rw [List.length_map]; omega, fun p2 hp2 => ?_⟩
  have e2 := same_new (o := .lst (M.map V.int)) hp2 (Same.refl H1)
  have f2 : upd H1 p2 (.lst (M.map V.int)) p2 = some (.lst (M.map V.int)) := upd_same
  generalize upd H1 p2 (.lst (M.map V.int)) = H2 at e2 f2 ⊢
  refine ⟨by show 3 ≤ _; omega, fun t ht => ?_⟩
  have e3 := same_new (o := .tup [.str s, .ref p1, .ref p2]) ht (Same.refl H2)
  refine q t _ (same_free (e1.trans e2) ht) ((e1.trans e2).trans e3) ⟨p1, p2, hp1, same_free e1 hp2, by rw [← hs]; exact upd_same, ?_, ?_⟩
  · rw [← hL]; exact e3 _ _ (e2 _ _ f1)
  · rw [← hM]; exact e3 _ _ f2
theorem w_someApp {H0 H : Hp} {Q : VK} {ss t : Addr} {ds : List Ent} {d : Ent} (h0 : H0 ss = none) (e0 : Same H0 H) (h : SomeAt H ss ds) (e : EntAt H ss t d) (hl : ds.length < 100) (q : ∀ H', Same H0 H' → SomeAt H' ss (ds ++ [d]) → Q .non H') : rAppend (.ref ss) [.ref t] H Q := by
  have sz := sizeLine_eq
  obtain ⟨ts, h1, h2, h3⟩ := h
  refine w_appF h1 (by rw [List.length_map]; omega) (q _ (same_put h0 e0) ⟨ts ++ [t], by rw [upd_same, List.map_append]; rfl, by rw [List.length_append, List.length_append, h2]; rfl, fun j u d' hj hd' => ?_⟩)
  have keep : EntAt H ss u d' → EntAt (upd H ss (.lst (ts.map V.ref ++ [.ref t]))) ss u d' := fun ⟨a, b, n1, n2, g1, g2, g3⟩ => by
    have nu : u ≠ ss := fun z => by
      rw [z, h1] at g1
      cases g1
    exact ⟨a, b, n1, n2, by rw [upd_ne nu]; exact g1, by rw [upd_ne n1]; exact g2, by rw [upd_ne n2]; exact g3⟩
  refine keep ?_
  by_cases c : j < ts.length
  · rw [List.getElem?_append_left c] at hj
    rw [List.getElem?_append_left (by omega)] at hd'
    exact h3 j u d' hj hd'
  · rw [List.getElem?_append_right (by omega)] at hj
    rw [List.getElem?_append_right (by omega)] at hd'
    have z : j - ts.length = 0 := by
      cases c' : j - ts.length with
      | zero => rfl
      | succ c'' => rw [c'] at hj; simp at hj
    rw [z] at hj
    rw [show j - ds.length = 0 by omega] at hd'
    injection hj with hj
    injection hd' with hd'
    subst hj
    subst hd'
    exact e
def DATA : List Ent := [(⟨true, 2, .free, 0⟩, 14, 5), (⟨false, 2, .free, 0⟩, 8, 4), (⟨true, 2, .cleared, 5⟩, 12, 7), (⟨false, 3, .cleared, 4⟩, 9, 6), (⟨true, 2, .standing, 3⟩, 8, 6), (⟨false, 2, .standing, 3⟩, 10, 5), (⟨false, 2, .standing, 0⟩, 4, 3), (⟨true, 2, .short, 2⟩, 8, 4), (⟨false, 2, .short, 2⟩, 6, 4)]
def GoodE (d : Ent) : Prop := SgOk d.1 ∧ looseB d.1 = false ∧ d.2.1 ≤ 50 ∧ d.2.2 ≤ 50 ∧ leastO d.1 d.2.1 ≤ 1000 ∧ greatO d.1.lk d.1.ln d.2.2 ≤ 1000
theorem data_good : ∀ d ∈ DATA, GoodE d := by
  intro d hd
  simp only [DATA, List.mem_cons, List.not_mem_nil, or_false] at hd
  rcases hd with rfl | rfl | rfl | rfl | rfl | rfl | rfl | rfl | rfl <;> exact ⟨⟨by first | rfl | exact ⟨by decide, by decide⟩, by decide, by decide⟩, by decide +kernel, by decide, by decide, by decide +kernel, by decide +kernel⟩
theorem set_made {K : PySem.W.Frag} {H H' : Hp} {x dx l : Addr} {o u : HO} {h : Bool} {q : Nat} {k : LimK} {n : Int} (hx : H x = none) (hdx : H dx = none) (e : Keep x (upd (upd H dx o) x u) H') (h1 : H' x = some (.ins (cSet K h) dx [("letters", .int q), ("own_limit", .ref l)])) (hl : LimAt K H' l k n) (q1 : 2 ≤ q) (q2 : q ≤ 26) :
    Same H H' ∧ SetAt K H' x ⟨h, q, k, n⟩ := ⟨fun b w hb => e b w (ne_of_none hb hx) (same_two hx hdx b w hb), dx, l, h1, hl, q1, q2⟩
theorem free_in {h : Bool} {q : Nat} (q1 : 2 ≤ q) (q2 : q ≤ 26) {m : Int} (m0 : 0 ≤ m) (m1 : m ≤ firstO ⟨h, q, .free, 0⟩) : lenO ⟨h, q, .free, 0⟩ m = m := by
  have ok : SgOk ⟨h, q, .free, 0⟩ := ⟨rfl, q1, q2⟩
  have e : lenO ⟨h, q, .free, 0⟩ m = sumF (freeC ⟨h, q, .free, 0⟩) 1 m := rfl
  rw [e, sumF_in (freeC_pos ok) m0 (by rw [freeC_one]; exact m1)]
  show ((1 : Nat) : Int) * m = m
  omega
theorem free_next {h : Bool} {q : Nat} (q1 : 2 ≤ q) (q2 : q ≤ 26) : lenO ⟨h, q, .free, 0⟩ (firstO ⟨h, q, .free, 0⟩ + 1) = firstO ⟨h, q, .free, 0⟩ + 2 := by
  have ok : SgOk ⟨h, q, .free, 0⟩ := ⟨rfl, q1, q2⟩
  have f := first_pos ok
  have e : lenO ⟨h, q, .free, 0⟩ (firstO ⟨h, q, .free, 0⟩ + 1) = sumF (freeC ⟨h, q, .free, 0⟩) 1 (firstO ⟨h, q, .free, 0⟩ + 1) := rfl
  rw [e, sumF_out (freeC_pos ok) (by rw [freeC_one]; omega), freeC_one, show firstO ⟨h, q, .free, 0⟩ + 1 - firstO ⟨h, q, .free, 0⟩ = 1 by omega, sumF_in (freeC_pos ok) (by decide) (freeC_pos ok 2)]
  show ((1 : Nat) : Int) * _ + ((1 + 1 : Nat) : Int) * 1 = _
  omega
theorem least_of_len {S : Sg} {c : Int} (h : c ≠ 0) : leastO S c = lenO S (c - 1) + 1 := if_neg h
theorem told_cleared {q : Nat} (q1 : 2 ≤ q) (q2 : q ≤ 26) : leastO ⟨false, q, .cleared, q⟩ (3 * q + 1) = 3 * q + 1 := by
  have ok : SgOk ⟨false, q, .cleared, q⟩ := ⟨⟨show (1 : Int) ≤ q by omega, show (q : Int) ≤ 4096 by omega⟩, q1, q2⟩
  rw [least_of_len (by omega), show 3 * (q : Int) + 1 - 1 = 3 * q by omega, len_cleared ok rfl (by omega)]
  show sumF (freeC ⟨false, q, .cleared, q⟩) 1 q * (3 * q / q) + sumF (freeC ⟨false, q, .cleared, q⟩) 1 (3 * q % q) + 1 = _
  rw [Int.mul_ediv_cancel 3 (by omega : (q : Int) ≠ 0), Int.mul_emod_left, sumF_nil (l := 0) (Int.le_refl _), sumF_in (freeC_pos ok) (by omega) (by rw [freeC_one]; exact Int.le_refl _)]
  show ((1 : Nat) : Int) * q * 3 + 0 + 1 = _
  omega
theorem short_one {q : Nat} (q1 : 2 ≤ q) (q2 : q ≤ 26) {c : Int} (c0 : 0 ≤ c) (c1 : c ≤ big40) : leastO ⟨true, q, .short, 1⟩ c = c := by
  have ok : SgOk ⟨true, q, .short, 1⟩ := ⟨⟨show (1 : Int) ≤ 1 by decide, show (1 : Int) ≤ 64 by decide⟩, q1, q2⟩
  have f := first_pos ok
  by_cases e : c = 0
  · rw [e]; rfl
  · rw [least_of_len e]
    have e2 : lenO ⟨true, q, .short, 1⟩ (c - 1) = sumF (capS (firstO ⟨true, q, .short, 1⟩) q 1) 1 (c - 1) := rfl
    rw [e2, sumF_in (c := capS (firstO ⟨true, q, .short, 1⟩) q 1) (capS_pos (by omega) (by omega)) (by omega) (by show c - 1 ≤ (if (((1 : Nat) : Int)) = 1 then big40 else _); rw [if_pos (show (((1 : Nat) : Int)) = 1 from rfl)]; omega)]
    show ((1 : Nat) : Int) * (c - 1) + 1 = c
    omega
theorem most_short {q : Nat} (q1 : 2 ≤ q) (q2 : q ≤ 26) : MostR ⟨true, q, .short, 1⟩ (10 ^ 30) (10 ^ 30) := by
  have ok : SgOk ⟨true, q, .short, 1⟩ := ⟨⟨show (1 : Int) ≤ 1 by decide, show (1 : Int) ≤ 64 by decide⟩, q1, q2⟩
  refine most_at ok (by rfl) (by decide) (by rw [short_one q1 q2 (by decide) (by decide)]; exact Int.le_refl _) ?_
  rw [short_one q1 q2 (by decide) (by decide)]
  decide
theorem few_short : Least .short 1 (10 ^ 30) (10 ^ 30) := by
  have g : ∀ c : Int, 1 ≤ c → greatO .short 1 c = c := fun c h => by
    show (if c ≤ 1 then tri c else tri 1 + (c - 1) * 1) = c
    by_cases e : c ≤ 1
    · have : c = 1 := by omega
      subst this
      rfl
    · rw [if_neg e, show tri 1 = 1 from rfl]
      omega
  refine ⟨by decide, by rw [g _ (by decide)]; exact Int.le_refl _, fun c c0 c1 => ?_⟩
  by_cases e : c = 0
  · rw [e]; decide
  · rw [g c (by omega)]
    exact c1
theorem far_ten {r : Int} (h : MostR ⟨false, 2, .free, 0⟩ (10 ^ 30) r) : r / 10 ^ 27 = 10 := by
  have ok : SgOk ⟨false, 2, .free, 0⟩ := ⟨rfl, by decide, by decide⟩
  have t1 : leastO ⟨false, 2, .free, 0⟩ 10000000000000000000000000000 ≤ 1000000000000000000000000000000 := by decide +kernel
  have t2 : 1000000000000000000000000000000 < leastO ⟨false, 2, .free, 0⟩ 11000000000000000000000000000 := by decide +kernel
  obtain ⟨r0, _, r1, r2⟩ := h
  have e30 : (10 : Int) ^ 30 = 1000000000000000000000000000000 := by decide
  have e27 : (10 : Int) ^ 27 = 1000000000000000000000000000 := by decide
  rw [e30] at r1 r2
  rw [e27]
  have a : 10000000000000000000000000000 ≤ r := by
    rcases Int.lt_or_le r 10000000000000000000000000000 with z | z
    · have := r2 _ z (fun y => by cases y)
      omega
    · exact z
  have b : r < 11000000000000000000000000000 := by
    rcases Int.lt_or_le r 11000000000000000000000000000 with z | z
    · exact z
    · have := least_mono ok (a := 11000000000000000000000000000) (b := r) (by decide) z (fun y => by cases y)
      omega
  omega
set_option hygiene false in
local macro_rules | `(tactic| walk_at "na") => `(tactic| first | exact T.na_few_setting | exact T.na_mst_setting)
set_option hygiene false in
local macro_rules | `(tactic| walk_at "cl") => `(tactic| first | exact T.cl_few | exact T.cl_mst)
local macro_rules | `(tactic| walk_at "cond") => `(tactic| first | (refine small_mul ?_ ?_ <;> omega) | (refine small_mul' ?_ ?_ <;> omega))
section
variable {P : Program} {w : World} {K : PySem.W.Frag} {mg : Str → Option Value} {base : Heap}
theorem law_ok {f : Addr} {fd : FuncData} (T : Txt K mg) (F : FunD K "law" "law" (defArgs s_law) (defBody s_law) (defScope s_law) [] [] f fd) (c_law_pen : Dn P w K mg base 1 "_law_pen" s_law_pen ["script"] (spPen K)) (c_law_steps_right : Dn P w K mg base 17 "_law_steps_right" s_law_steps_right ["text", "steps", "slow"] (spSteps K)) (c_law_draw : Dn P w K mg base 1 "_law_draw" s_law_draw ["pen", "many"] (spDraw)) (c_most : Dn P w K mg base 14 "most" s_most ["setting", "n"] (spMost K)) (c_fewest : Dn P w K mg base 10 "fewest" s_fewest ["setting", "n"] (spFewest K)) (c_Most___init__ : Fr P w K mg base 2 (He.ma K (He.ga K "Most") "__init__") ["self", "setting"] [] (spMostInit K)) (c_Most___call__ : Fr P w K mg base 12 (He.ma K (He.ga K "Most") "__call__") ["self", "n"] [] (spMostCall K)) (c_Most___getitem__ : Fr P w K mg base 9 (He.ma K (He.ga K "Most") "__getitem__") ["self", "c"] [] (spMostItem K)) (c_set_init1 : ∀ h : Bool, Fr P w K mg base 5 (He.ma K (cSet K h) "__init__") ["self", "letters", "limit"] [.non] (spSetInit K h)) (c_set_init2 : ∀ h : Bool, Fr P w K mg base 5 (He.ma K (cSet K h) "__init__") ["self", "letters", "limit"] [] (spSetInit K h)) (c_Short___init__ : Fr P w K mg base 3 (He.ma K (cLim K .short) "__init__") ["self", "longest"] [] (spLimInit K .short)) (c_Cleared___init__ : Fr P w K mg base 3 (He.ma K (cLim K .cleared) "__init__") ["self", "many"] [] (spLimInit K .cleared)) : FnOk P w K mg base CX0 20 f fd ["script"] (spLaw K) := by
  refine F.ok sc_law (fun vs H Q E h => ?_) (fun cdv A outer s H vs Q E hr h => ?_)
  · obtain ⟨a, ns, rfl, _⟩ := h
    rfl
  · obtain ⟨a, ns, rfl, hS, k⟩ := h
    have sz := sizeLine_eq
    refine ⟨_, PSs.nox (pss_cons (ps_set (i := 1) sc_law.nd rfl (Or.inl rfl) (pe_d c_law_pen hr (by decide) rfl (pa_cons (pv 0) pa_nil)))
 (pss_cons (ps_set (i := 2) sc_law.nd rfl (Or.inl rfl) (pe_lst (pa_cons (pe_tup (pa_cons pe_str (pa_cons (pe_lst (pa_cons pe_int (pa_cons pe_int (pa_cons pe_int (pa_cons pe_int (pa_cons pe_int (pa_cons pe_int (pa_cons pe_int (pa_cons pe_int (pa_cons pe_int (pa_cons pe_int (pa_cons pe_int (pa_cons pe_int (pa_cons pe_int (pa_cons pe_int pa_nil))))))))))))))) (pa_cons (pe_lst (pa_cons pe_int (pa_cons pe_int (pa_cons pe_int (pa_cons pe_int (pa_cons pe_int pa_nil)))))) pa_nil)))) pa_nil)))
 (pss_cons (ps_expr (pe_bm PySem.F.plainAttrs_list PySem.F.slot_list_append PySem.F.type_list_append mt_append (pv 2) (pa_cons (pe_tup (pa_cons pe_str (pa_cons (pe_lst (pa_cons pe_int (pa_cons pe_int (pa_cons pe_int (pa_cons pe_int (pa_cons pe_int (pa_cons pe_int (pa_cons pe_int (pa_cons pe_int pa_nil))))))))) (pa_cons (pe_lst (pa_cons pe_int (pa_cons pe_int (pa_cons pe_int (pa_cons pe_int pa_nil))))) pa_nil)))) pa_nil)))
 (pss_cons (ps_expr (pe_bm PySem.F.plainAttrs_list PySem.F.slot_list_append PySem.F.type_list_append mt_append (pv 2) (pa_cons (pe_tup (pa_cons pe_str (pa_cons (pe_lst (pa_cons pe_int (pa_cons pe_int (pa_cons pe_int (pa_cons pe_int (pa_cons pe_int (pa_cons pe_int (pa_cons pe_int (pa_cons pe_int (pa_cons pe_int (pa_cons pe_int (pa_cons pe_int (pa_cons pe_int pa_nil))))))))))))) (pa_cons (pe_lst (pa_cons pe_int (pa_cons pe_int (pa_cons pe_int (pa_cons pe_int (pa_cons pe_int (pa_cons pe_int (pa_cons pe_int pa_nil)))))))) pa_nil)))) pa_nil)))
 (pss_cons (ps_expr (pe_bm PySem.F.plainAttrs_list PySem.F.slot_list_append PySem.F.type_list_append mt_append (pv 2) (pa_cons (pe_tup (pa_cons pe_str (pa_cons (pe_lst (pa_cons pe_int (pa_cons pe_int (pa_cons pe_int (pa_cons pe_int (pa_cons pe_int (pa_cons pe_int (pa_cons pe_int (pa_cons pe_int (pa_cons pe_int pa_nil)))))))))) (pa_cons (pe_lst (pa_cons pe_int (pa_cons pe_int (pa_cons pe_int (pa_cons pe_int (pa_cons pe_int (pa_cons pe_int pa_nil))))))) pa_nil)))) pa_nil)))
 (pss_cons (ps_expr (pe_bm PySem.F.plainAttrs_list PySem.F.slot_list_append PySem.F.type_list_append mt_append (pv 2) (pa_cons (pe_tup (pa_cons pe_str (pa_cons (pe_lst (pa_cons pe_int (pa_cons pe_int (pa_cons pe_int (pa_cons pe_int (pa_cons pe_int (pa_cons pe_int (pa_cons pe_int (pa_cons pe_int pa_nil))))))))) (pa_cons (pe_lst (pa_cons pe_int (pa_cons pe_int (pa_cons pe_int (pa_cons pe_int (pa_cons pe_int (pa_cons pe_int pa_nil))))))) pa_nil)))) pa_nil)))
 (pss_cons (ps_expr (pe_bm PySem.F.plainAttrs_list PySem.F.slot_list_append PySem.F.type_list_append mt_append (pv 2) (pa_cons (pe_tup (pa_cons pe_str (pa_cons (pe_lst (pa_cons pe_int (pa_cons pe_int (pa_cons pe_int (pa_cons pe_int (pa_cons pe_int (pa_cons pe_int (pa_cons pe_int (pa_cons pe_int (pa_cons pe_int (pa_cons pe_int pa_nil))))))))))) (pa_cons (pe_lst (pa_cons pe_int (pa_cons pe_int (pa_cons pe_int (pa_cons pe_int (pa_cons pe_int pa_nil)))))) pa_nil)))) pa_nil)))
 (pss_cons (ps_expr (pe_bm PySem.F.plainAttrs_list PySem.F.slot_list_append PySem.F.type_list_append mt_append (pv 2) (pa_cons (pe_tup (pa_cons pe_str (pa_cons (pe_lst (pa_cons pe_int (pa_cons pe_int (pa_cons pe_int (pa_cons pe_int pa_nil))))) (pa_cons (pe_lst (pa_cons pe_int (pa_cons pe_int (pa_cons pe_int pa_nil)))) pa_nil)))) pa_nil)))
 (pss_cons (ps_expr (pe_bm PySem.F.plainAttrs_list PySem.F.slot_list_append PySem.F.type_list_append mt_append (pv 2) (pa_cons (pe_tup (pa_cons pe_str (pa_cons (pe_lst (pa_cons pe_int (pa_cons pe_int (pa_cons pe_int (pa_cons pe_int (pa_cons pe_int (pa_cons pe_int (pa_cons pe_int (pa_cons pe_int pa_nil))))))))) (pa_cons (pe_lst (pa_cons pe_int (pa_cons pe_int (pa_cons pe_int (pa_cons pe_int pa_nil))))) pa_nil)))) pa_nil)))
 (pss_cons (ps_expr (pe_bm PySem.F.plainAttrs_list PySem.F.slot_list_append PySem.F.type_list_append mt_append (pv 2) (pa_cons (pe_tup (pa_cons pe_str (pa_cons (pe_lst (pa_cons pe_int (pa_cons pe_int (pa_cons pe_int (pa_cons pe_int (pa_cons pe_int (pa_cons pe_int pa_nil))))))) (pa_cons (pe_lst (pa_cons pe_int (pa_cons pe_int (pa_cons pe_int (pa_cons pe_int pa_nil))))) pa_nil)))) pa_nil)))
 (pss_cons (ps_for PassesOwn.never rfl (pi_list (pv 2)) (pg_tup rfl (pgs_cons (pg_name (i := 3) sc_law.nd rfl (Or.inl rfl)) (pgs_cons (pg_name (i := 4) sc_law.nd rfl (Or.inl rfl)) (pgs_cons (pg_name (i := 5) sc_law.nd rfl (Or.inl rfl)) pgs_nil))))
 (pss_one (ps_if (pt_not (pt_val (pe_d c_law_steps_right hr (by decide) rfl (pa_cons (pv 3) (pa_cons (pv 4) (pa_cons (pv 5) pa_nil)))) (by intro _; rfl)))
 (pss_one (ps_ret pe_bl))
 pss_nil)))
 (pss_cons (ps_for PassesOwn.never rfl (pi_range1 rfl T.n_range (pa_cons pe_int pa_nil)) (pg_name (i := 6) sc_law.nd rfl (Or.inl rfl))
 (pss_cons (ps_set (i := 7) sc_law.nd rfl (Or.inl rfl) (pe_op op_add pe_int (pe_d c_law_draw hr (by decide) rfl (pa_cons (pv 1) (pa_cons pe_int pa_nil)))))
 (pss_cons (ps_set (i := 8) sc_law.nd rfl (Or.inl rfl) (pe_mk c_Most___init__ T.mk_mst T.gc_mst hr (by decide) rfl (pa_cons (pe_mk (c_set_init1 true) (T.mk_set true) T.gc_Hidden hr (by decide) rfl (pa_cons (pv 7) pa_nil)) pa_nil)))
 (pss_cons (ps_if (pt_cmpR (op_neD hr.units) (pe_lst (pa_cons (pe_ci c_Most___call__ T.ca_mst hr (by decide) (pv 8) (pa_cons (pe_op op_add (pe_op op_mulA (pv 7) (pv 7)) pe_int) pa_nil)) (pa_cons (pe_ixO c_Most___getitem__ T.sp_mst_item T.fi_mst_item hr (by decide) (pv 8) (pe_op op_add (pe_op op_mulA (pv 7) (pv 7)) pe_int)) (pa_cons (pe_ci c_Most___call__ T.ca_mst hr (by decide) (pv 8) (pa_cons (pe_op op_add (pe_op op_mulA (pv 7) (pv 7)) pe_int) pa_nil)) pa_nil)))) (pe_lst (pa_cons (pe_op op_add (pe_op op_mulA (pv 7) (pv 7)) pe_int) (pa_cons (pe_op op_add (pe_op op_mulA (pv 7) (pv 7)) pe_int) (pa_cons (pe_op op_add (pe_op op_mulA (pv 7) (pv 7)) pe_int) pa_nil)))) (nomark _))
 (pss_one (ps_ret pe_bl))
 pss_nil)
 (pss_cons (ps_if (PW.pt (pw_or (pt_cmpR op_ne (pe_ixO c_Most___getitem__ T.sp_mst_item T.fi_mst_item hr (by decide) (pe_mk c_Most___init__ T.mk_mst T.gc_mst hr (by decide) rfl (pa_cons (pe_mk (c_set_init1 false) (T.mk_set false) T.gc_Told hr (by decide) rfl (pa_cons (pv 7) pa_nil)) pa_nil)) (pe_op op_add (pv 7) pe_int)) (pe_op op_add (pv 7) pe_int) (nomark _)) (pw_or1 (pt_cmpR op_ne (pe_ixO c_Most___getitem__ T.sp_mst_item T.fi_mst_item hr (by decide) (pe_mk c_Most___init__ T.mk_mst T.gc_mst hr (by decide) rfl (pa_cons (pe_mk (c_set_init2 false) (T.mk_set false) T.gc_Told hr (by decide) rfl (pa_cons (pv 7) (pa_cons (pe_mk c_Cleared___init__ (T.mk_lim .cleared) (T.gc_lim .cleared) hr (by decide) rfl (pa_cons (pv 7) pa_nil)) pa_nil))) pa_nil)) (pe_op op_add (pe_op op_mulA pe_int (pv 7)) pe_int)) (pe_op op_add (pe_op op_mulA pe_int (pv 7)) pe_int) (nomark _)))))
 (pss_one (ps_ret pe_bl))
 pss_nil)
 (pss_one (ps_if (PW.pt (pw_or (pt_cmpR op_ne (pe_d c_most hr (by decide) rfl (pa_cons (pe_mk (c_set_init2 true) (T.mk_set true) T.gc_Hidden hr (by decide) rfl (pa_cons (pv 7) (pa_cons (pe_mk c_Short___init__ (T.mk_lim .short) (T.gc_lim .short) hr (by decide) rfl (pa_cons pe_int pa_nil)) pa_nil))) (pa_cons (pe_op op_pow pe_int pe_int) pa_nil))) (pe_op op_pow pe_int pe_int) (nomark _)) (pw_or1 (pt_cmpR op_ne (pe_d c_fewest hr (by decide) rfl (pa_cons (pe_mk (c_set_init2 false) (T.mk_set false) T.gc_Told hr (by decide) rfl (pa_cons (pv 7) (pa_cons (pe_mk c_Short___init__ (T.mk_lim .short) (T.gc_lim .short) hr (by decide) rfl (pa_cons pe_int pa_nil)) pa_nil))) (pa_cons (pe_op op_pow pe_int pe_int) pa_nil))) (pe_op op_pow pe_int pe_int) (nomark _)))))
 (pss_one (ps_ret pe_bl))
 pss_nil)))))))
 (pss_one (ps_ret (pe_cmpR op_eq (pe_op op_fdivW (pe_d c_most hr (by decide) rfl (pa_cons (pe_mk (c_set_init1 false) (T.mk_set false) T.gc_Told hr (by decide) rfl (pa_cons pe_int pa_nil)) (pa_cons (pe_op op_pow pe_int pe_int) pa_nil))) (pe_op op_pow pe_int pe_int)) pe_int (nomark _)))))))))))))))), ?_⟩
    refine w_start (σ := [some (.ref a), none, none, none, none, none, none, none, none]) rfl ?_
    with_reducible refine w_seqA ?_
    refine w_asg ?_
    repeat walk_at "st"
    refine ⟨a, ns, rfl, hS, fun p c H1 p0 s1 hp1 => ?_⟩
    refine w_g1 ?_
    with_reducible refine w_nx ?_
    with_reducible refine w_seqA ?_
    refine w_asg ?_
    refine w_lst ?_
    refine w_cons ?_
    refine ent_new [1, 2, 3, 4, 5, 7, 9, 11, 13, 15, 17, 19, 21, 24] [1, 3, 6, 10, 15] (⟨true, 2, .free, 0⟩, 14, 5) (by decide +kernel) (by decide +kernel) (by decide +kernel) (by decide) (fun H R h => by repeat walk_at "st"; exact h) (fun H R h => by repeat walk_at "st"; exact h) fun t1 Ha ht1 ea fa => ?_
    refine w_nil ?_
    refine ⟨by walk_at "len", fun ss hss => ?_⟩
    have e0 : Same H1 Ha := ea
    have hs1 : H1 ss = none := same_free e0 hss
    have eb := same_new (o := .lst [.ref t1]) hss (Same.refl Ha)
    have hA : SomeAt (upd Ha ss (.lst [.ref t1])) ss [(⟨true, 2, .free, 0⟩, 14, 5)] := ⟨[t1], upd_same, rfl, fun j t d hj hd => by
      cases j with
      | zero =>
        injection hj with hj
        injection hd with hd
        subst hj
        subst hd
        exact (fa.of0 hss).same eb
      | succ j => simp at hj⟩
    have eA := e0.trans eb
    generalize upd Ha ss (.lst [.ref t1]) = HA at eb hA eA ⊢
    refine w_g2 ?_
    with_reducible refine w_nx ?_
    with_reducible refine w_seqE ?_
    refine w_drop ?_
    refine w_bmF ?_
    refine w_v2 ?_
    obtain ⟨ts, hts, lts, _⟩ := id hA
    refine w_tyF hts ?_
    refine w_cons ?_
    refine ent_new [1, 2, 3, 5, 7, 9, 11, 14] [1, 3, 6, 10] (⟨false, 2, .free, 0⟩, 8, 4) (by decide +kernel) (by decide +kernel) (by decide +kernel) (by decide) (fun H R h => by repeat walk_at "st"; exact h) (fun H R h => by repeat walk_at "st"; exact h) fun tn Hb htn en fn => ?_
    refine w_nil ?_
    have fn' := fn.of hts
    refine w_someApp hs1 (eA.trans en) (hA.same en) fn' (by decide) fun HB eB hB => ?_
    clear hts lts hA eA fn fn' en htn
    have eA := eB
    have hA := hB
    clear eB hB
    with_reducible refine w_nx ?_
    with_reducible refine w_seqE ?_
    refine w_drop ?_
    refine w_bmF ?_
    refine w_v2 ?_
    obtain ⟨ts, hts, lts, _⟩ := id hA
    refine w_tyF hts ?_
    refine w_cons ?_
    refine ent_new [1, 2, 3, 4, 5, 7, 8, 9, 10, 11, 13, 14] [1, 3, 6, 10, 15, 16, 18] (⟨true, 2, .cleared, 5⟩, 12, 7) (by decide +kernel) (by decide +kernel) (by decide +kernel) (by decide) (fun H R h => by repeat walk_at "st"; exact h) (fun H R h => by repeat walk_at "st"; exact h) fun tn Hb htn en fn => ?_
    refine w_nil ?_
    have fn' := fn.of hts
    refine w_someApp hs1 (eA.trans en) (hA.same en) fn' (by decide) fun HB eB hB => ?_
    clear hts lts hA eA fn fn' en htn
    have eA := eB
    have hA := hB
    clear eB hB
    with_reducible refine w_nx ?_
    with_reducible refine w_seqE ?_
    refine w_drop ?_
    refine w_bmF ?_
    refine w_v2 ?_
    obtain ⟨ts, hts, lts, _⟩ := id hA
    refine w_tyF hts ?_
    refine w_cons ?_
    refine ent_new [1, 2, 3, 4, 6, 7, 8, 9, 11] [1, 3, 6, 10, 11, 13] (⟨false, 3, .cleared, 4⟩, 9, 6) (by decide +kernel) (by decide +kernel) (by decide +kernel) (by decide) (fun H R h => by repeat walk_at "st"; exact h) (fun H R h => by repeat walk_at "st"; exact h) fun tn Hb htn en fn => ?_
    refine w_nil ?_
    have fn' := fn.of hts
    refine w_someApp hs1 (eA.trans en) (hA.same en) fn' (by decide) fun HB eB hB => ?_
    clear hts lts hA eA fn fn' en htn
    have eA := eB
    have hA := hB
    clear eB hB
    with_reducible refine w_nx ?_
    with_reducible refine w_seqE ?_
    refine w_drop ?_
    refine w_bmF ?_
    refine w_v2 ?_
    obtain ⟨ts, hts, lts, _⟩ := id hA
    refine w_tyF hts ?_
    refine w_cons ?_
    refine ent_new [1, 2, 3, 4, 5, 6, 7, 8] [1, 3, 6, 10, 14, 18] (⟨true, 2, .standing, 3⟩, 8, 6) (by decide +kernel) (by decide +kernel) (by decide +kernel) (by decide) (fun H R h => by repeat walk_at "st"; exact h) (fun H R h => by repeat walk_at "st"; exact h) fun tn Hb htn en fn => ?_
    refine w_nil ?_
    have fn' := fn.of hts
    refine w_someApp hs1 (eA.trans en) (hA.same en) fn' (by decide) fun HB eB hB => ?_
    clear hts lts hA eA fn fn' en htn
    have eA := eB
    have hA := hB
    clear eB hB
    with_reducible refine w_nx ?_
    with_reducible refine w_seqE ?_
    refine w_drop ?_
    refine w_bmF ?_
    refine w_v2 ?_
    obtain ⟨ts, hts, lts, _⟩ := id hA
    refine w_tyF hts ?_
    refine w_cons ?_
    refine ent_new [1, 2, 3, 5, 7, 8, 9, 10, 11, 12] [1, 3, 6, 10, 14] (⟨false, 2, .standing, 3⟩, 10, 5) (by decide +kernel) (by decide +kernel) (by decide +kernel) (by decide) (fun H R h => by repeat walk_at "st"; exact h) (fun H R h => by repeat walk_at "st"; exact h) fun tn Hb htn en fn => ?_
    refine w_nil ?_
    have fn' := fn.of hts
    refine w_someApp hs1 (eA.trans en) (hA.same en) fn' (by decide) fun HB eB hB => ?_
    clear hts lts hA eA fn fn' en htn
    have eA := eB
    have hA := hB
    clear eB hB
    with_reducible refine w_nx ?_
    with_reducible refine w_seqE ?_
    refine w_drop ?_
    refine w_bmF ?_
    refine w_v2 ?_
    obtain ⟨ts, hts, lts, _⟩ := id hA
    refine w_tyF hts ?_
    refine w_cons ?_
    refine ent_new [1, 2, 3, 4] [1, 2, 3] (⟨false, 2, .standing, 0⟩, 4, 3) (by decide +kernel) (by decide +kernel) (by decide +kernel) (by decide) (fun H R h => by repeat walk_at "st"; exact h) (fun H R h => by repeat walk_at "st"; exact h) fun tn Hb htn en fn => ?_
    refine w_nil ?_
    have fn' := fn.of hts
    refine w_someApp hs1 (eA.trans en) (hA.same en) fn' (by decide) fun HB eB hB => ?_
    clear hts lts hA eA fn fn' en htn
    have eA := eB
    have hA := hB
    clear eB hB
    with_reducible refine w_nx ?_
    with_reducible refine w_seqE ?_
    refine w_drop ?_
    refine w_bmF ?_
    refine w_v2 ?_
    obtain ⟨ts, hts, lts, _⟩ := id hA
    refine w_tyF hts ?_
    refine w_cons ?_
    refine ent_new [1, 2, 3, 4, 5, 7, 9, 11] [1, 3, 5, 7] (⟨true, 2, .short, 2⟩, 8, 4) (by decide +kernel) (by decide +kernel) (by decide +kernel) (by decide) (fun H R h => by repeat walk_at "st"; exact h) (fun H R h => by repeat walk_at "st"; exact h) fun tn Hb htn en fn => ?_
    refine w_nil ?_
    have fn' := fn.of hts
    refine w_someApp hs1 (eA.trans en) (hA.same en) fn' (by decide) fun HB eB hB => ?_
    clear hts lts hA eA fn fn' en htn
    have eA := eB
    have hA := hB
    clear eB hB
    with_reducible refine w_nx ?_
    with_reducible refine w_seqE ?_
    refine w_drop ?_
    refine w_bmF ?_
    refine w_v2 ?_
    obtain ⟨ts, hts, lts, _⟩ := id hA
    refine w_tyF hts ?_
    refine w_cons ?_
    refine ent_new [1, 2, 3, 5, 7, 9] [1, 3, 5, 7] (⟨false, 2, .short, 2⟩, 6, 4) (by decide +kernel) (by decide +kernel) (by decide +kernel) (by decide) (fun H R h => by repeat walk_at "st"; exact h) (fun H R h => by repeat walk_at "st"; exact h) fun tn Hb htn en fn => ?_
    refine w_nil ?_
    have fn' := fn.of hts
    refine w_someApp hs1 (eA.trans en) (hA.same en) fn' (by decide) fun HB eB hB => ?_
    clear hts lts hA eA fn fn' en htn
    have eA := eB
    have hA := hB
    clear eB hB
    with_reducible refine w_nx ?_
    have hD : [(⟨true, 2, .free, 0⟩, 14, 5), (⟨false, 2, .free, 0⟩, 8, 4), (⟨true, 2, .cleared, 5⟩, 12, 7), (⟨false, 3, .cleared, 4⟩, 9, 6), (⟨true, 2, .standing, 3⟩, 8, 6), (⟨false, 2, .standing, 3⟩, 10, 5), (⟨false, 2, .standing, 0⟩, 4, 3), (⟨true, 2, .short, 2⟩, 8, 4), (⟨false, 2, .short, 2⟩, 6, 4)] = DATA := rfl
    have hA : SomeAt HB ss DATA := hA
    obtain ⟨ts, hts, lts, hents⟩ := hA
    have hp2 := hp1.same eA
    with_reducible refine w_seq ?_
    repeat walk_at "st"
    refine L2.for_list (xs := ts.map V.ref) (fun i σ' H' => ∃ o3 o4 o5, σ' = [some (.ref a), some (.ref p), some (.ref ss), o3, o4, o5, none, none, none] ∧ Same HB H') ⟨_, _, _, rfl, Same.refl HB⟩ (fun i σ' H' _ ⟨_, _, _, _, e⟩ => SqL.of (e _ _ hts)) ?_ ?_
    · rintro i v σ' H2 hv ⟨o3, o4, o5, rfl, e2⟩
      rw [List.getElem?_map] at hv
      cases ct : ts[i]? with
      | none => rw [ct] at hv; cases hv
      | some t =>
        rw [ct] at hv
        injection hv with hv
        subst hv
        have hi : i < DATA.length := by rw [← lts]; exact (List.getElem?_eq_some_iff.mp ct).1
        obtain ⟨la, lb, _, _, g1, g2, g3⟩ := hents i t DATA[i] ct (List.getElem?_eq_getElem hi)
        obtain ⟨ok, lo, n50, m50, b1, b2⟩ := data_good DATA[i] (List.getElem_mem hi)
        have g1' := e2 _ _ g1
        repeat walk_at "st"
        refine ⟨_, la, lb, _, _, rfl, ok, lo, e2 _ _ g2, e2 _ _ g3, n50, m50, b1, b2, fun H3 e3 => ?_⟩
        repeat walk_at "st"
        exact ⟨_, _, _, rfl, e2.trans e3⟩
    · rintro σ' H2 ⟨o3, o4, o5, rfl, e2⟩
      have hp3 := hp2.same e2
      with_reducible refine w_seq ?_
      repeat walk_at "st"
      refine L2.for_range (fun i σ' H' => ∃ o6 o7 o8, σ' = [some (.ref a), some (.ref p), some (.ref ss), o3, o4, o5, o6, o7, o8] ∧ PenB H' p c i) ⟨_, _, _, rfl, hp3⟩ ?_ ?_
      · rintro i σ' H3 hi ⟨o6, o7, o8, rfl, hp4⟩
        have hi9 : i < 9 := hi
        repeat walk_at "st"
        refine ⟨p, c, 25, _, rfl, by decide, by decide, hp4, by omega, fun d H4 d0 d1 e4 hp5 => ?_⟩
        obtain ⟨q, hq⟩ : ∃ q : Nat, 2 + d = q := ⟨(2 + d).toNat, by omega⟩
        have q1 : 2 ≤ q := by omega
        have q2 : q ≤ 26 := by omega
        refine w_I0 ?_
        rw [hq]
        have qq : (q : Int) * q ≤ 26 * 26 := Int.mul_le_mul (by omega) (by omega) (by omega) (by omega)
        have qp : 0 < (q : Int) * q := Int.mul_pos (by omega) (by omega)
        repeat walk_at "st"
        -- Most(Hidden(size))
        refine fun x1 dx1 hx1 hdx1 ne1 => ⟨x1, dx1, q, .non, .free, 0, rfl, by omega, by omega, upd_same, Or.inl ⟨rfl, rfl, rfl⟩, fun H5 l1 e5 h5 hl5 => ?_⟩
        obtain ⟨s5, hS5⟩ := set_made hx1 hdx1 e5 h5 hl5 q1 q2
        refine ⟨rfl, ?_⟩
        repeat walk_at "st"
        refine fun x dx hx hdx ne => ⟨x, dx, x1, _, rfl, upd_same, hS5.same (same_two hx hdx), rfl, ?_⟩
        have e6 : Same H5 (upd (upd (upd H5 dx (.own x)) x (.ins (cMst K) dx [])) x (.ins (cMst K) dx [("setting", .ref x1)])) := same_threeM hx hdx
        have hM6 : MstAt K (upd (upd (upd H5 dx (.own x)) x (.ins (cMst K) dx [])) x (.ins (cMst K) dx [("setting", .ref x1)])) x ⟨true, q, .free, 0⟩ := ⟨dx, x1, upd_same, hS5.same e6⟩
        generalize upd (upd (upd H5 dx (.own x)) x (.ins (cMst K) dx [])) x (.ins (cMst K) dx [("setting", .ref x1)]) = H6 at e6 hM6 ⊢
        have hp6 := (hp5.same s5).same e6
        have ok1 : SgOk ⟨true, q, .free, 0⟩ := ⟨rfl, q1, q2⟩
        have tm1 : ∀ z, TellsM ⟨true, q, .free, 0⟩ z := fun z y => by cases y
        have tc1 : ∀ z, TellsC ⟨true, q, .free, 0⟩ z := fun z y => by cases y
        have L1 : leastO ⟨true, q, .free, 0⟩ ((q : Int) * q + 1) = (q : Int) * q + 1 := by
          rw [least_of_len (by omega), show (q : Int) * q + 1 - 1 = (q : Int) * q by omega, free_in (h := true) (m := (q : Int) * q) q1 q2 (by omega) (Int.le_refl _)]
        have L2 : leastO ⟨true, q, .free, 0⟩ ((q : Int) * q + 1 + 1) = (q : Int) * q + 3 := by
          rw [least_of_len (by omega), show (q : Int) * q + 1 + 1 - 1 = firstO ⟨true, q, .free, 0⟩ + 1 by show _ = (q : Int) * q + 1; omega, free_next q1 q2]
          show (q : Int) * q + 2 + 1 = _
          omega
        have M1 : MostR ⟨true, q, .free, 0⟩ ((q : Int) * q + 1) ((q : Int) * q + 1) := most_at ok1 rfl (by omega) (by omega) (by omega)
        have M2 : MostR ⟨true, q, .free, 0⟩ ((q : Int) * q + 2) ((q : Int) * q + 1) := most_at ok1 rfl (by omega) (by omega) (by omega)
        obtain ⟨dx6, a6, hx6, _⟩ := id hM6
        repeat walk_at "st"
        with_reducible refine w_seq ?_
        repeat walk_at "st"
        refine ⟨⟨_, _, hx6⟩, x, _, _, rfl, hM6, ok1, ⟨by omega, by omega⟩, tm1 _, fun r1 H7 hr1 _ e7 => ?_⟩
        rw [hr1.one M1]
        have hM7 := hM6.same e7
        have hx7 := e7 _ _ hx6
        repeat walk_at "st"
        refine ⟨x, dx6, _, rfl, hx7, x, _, _, rfl, hM7, ok1, ⟨by omega, by omega⟩, tc1 _, fun H8 e8 => ?_⟩
        rw [show (q : Int) * q + 2 = (q : Int) * q + 1 + 1 by omega, L2]
        have hM8 := hM7.same e8
        have hx8 := e8 _ _ hx7
        repeat walk_at "st"
        refine ⟨⟨_, _, hx8⟩, x, _, _, rfl, hM8, ok1, ⟨by omega, by omega⟩, tm1 _, fun r2 H9 hr2 _ e9 => ?_⟩
        rw [hr2.one M2]
        repeat walk_at "st"
        refine ⟨by walk_at "len", fun p1 hp1 => ?_⟩
        have ea := same_new (o := .lst [.int ((q : Int) * q + 1), .int ((q : Int) * q + 3), .int ((q : Int) * q + 1)]) hp1 (Same.refl H9)
        have fa : upd H9 p1 (.lst [.int ((q : Int) * q + 1), .int ((q : Int) * q + 3), .int ((q : Int) * q + 1)]) p1 = some (.lst ([(q : Int) * q + 1, (q : Int) * q + 3, (q : Int) * q + 1].map V.int)) := upd_same
        generalize upd H9 p1 (.lst [.int ((q : Int) * q + 1), .int ((q : Int) * q + 3), .int ((q : Int) * q + 1)]) = H10 at ea fa ⊢
        repeat walk_at "st"
        refine ⟨by walk_at "len", fun p2 hp2 => ?_⟩
        have eb := same_new (o := .lst [.int ((q : Int) * q + 1), .int ((q : Int) * q + 3), .int ((q : Int) * q + 1)]) hp2 (Same.refl H10)
        have fb : upd H10 p2 (.lst [.int ((q : Int) * q + 1), .int ((q : Int) * q + 3), .int ((q : Int) * q + 1)]) p2 = some (.lst ([(q : Int) * q + 1, (q : Int) * q + 3, (q : Int) * q + 1].map V.int)) := upd_same
        generalize upd H10 p2 (.lst [.int ((q : Int) * q + 1), .int ((q : Int) * q + 3), .int ((q : Int) * q + 1)]) = H11 at eb fb ⊢
        refine w_neIntsX (eb _ _ fa) fb ?_
        have e611 := (((e7.trans e8).trans e9).trans ea).trans eb
        have hp11 := hp6.same e611
        repeat walk_at "st"
        with_reducible refine w_seq ?_
        repeat walk_at "st"
        -- Most(Told(size))
        refine fun y1 dy1 hy1 hdy1 ney1 => ⟨y1, dy1, q, .non, .free, 0, rfl, by omega, by omega, upd_same, Or.inl ⟨rfl, rfl, rfl⟩, fun H12 l2 e12 h12 hl12 => ?_⟩
        obtain ⟨s12, hS12⟩ := set_made hy1 hdy1 e12 h12 hl12 q1 q2
        refine ⟨rfl, ?_⟩
        repeat walk_at "st"
        refine fun y dy hy hdy ney => ⟨y, dy, y1, _, rfl, upd_same, hS12.same (same_two hy hdy), rfl, ?_⟩
        have e13 : Same H12 (upd (upd (upd H12 dy (.own y)) y (.ins (cMst K) dy [])) y (.ins (cMst K) dy [("setting", .ref y1)])) := same_threeM hy hdy
        have hM13 : MstAt K (upd (upd (upd H12 dy (.own y)) y (.ins (cMst K) dy [])) y (.ins (cMst K) dy [("setting", .ref y1)])) y ⟨false, q, .free, 0⟩ := ⟨dy, y1, upd_same, hS12.same e13⟩
        generalize upd (upd (upd H12 dy (.own y)) y (.ins (cMst K) dy [])) y (.ins (cMst K) dy [("setting", .ref y1)]) = H13 at e13 hM13 ⊢
        have hp13 := (hp11.same s12).same e13
        have ok2 : SgOk ⟨false, q, .free, 0⟩ := ⟨rfl, q1, q2⟩
        obtain ⟨dy13, a13, hy13, _⟩ := id hM13
        repeat walk_at "st"
        refine ⟨y, dy13, _, rfl, hy13, y, _, _, rfl, hM13, ok2, ⟨by omega, by omega⟩, (fun w => by cases w), fun H14 e14 => ?_⟩
        have L3 : leastO ⟨false, q, .free, 0⟩ ((q : Int) + 2) = q + 3 := by
          rw [least_of_len (by omega), show (q : Int) + 2 - 1 = firstO ⟨false, q, .free, 0⟩ + 1 by show _ = (q : Int) + 1; omega, free_next q1 q2]
          show (q : Int) + 2 + 1 = _
          omega
        rw [L3]
        have hp14 := hp13.same e14
        repeat walk_at "st"
        refine w_iteF (by simp) ?_
        repeat walk_at "st"
        -- Most(Told(size, Cleared(size)))
        refine fun l dl hl hdl nel => ⟨l, dl, q, rfl, ⟨by omega, by omega⟩, upd_same, rfl, ?_⟩
        have e15 : Same H14 (upd (upd (upd H14 dl (.own l)) l (.ins (cLim K .cleared) dl [])) l (.ins (cLim K .cleared) dl (limFs .cleared q))) := same_threeM hl hdl
        have hl15 : LimAt K (upd (upd (upd H14 dl (.own l)) l (.ins (cLim K .cleared) dl [])) l (.ins (cLim K .cleared) dl (limFs .cleared q))) l .cleared q := ⟨dl, upd_same⟩
        generalize upd (upd (upd H14 dl (.own l)) l (.ins (cLim K .cleared) dl [])) l (.ins (cLim K .cleared) dl (limFs .cleared q)) = H15 at e15 hl15 ⊢
        repeat walk_at "st"
        refine fun z1 dz1 hz1 hdz1 nez1 => ⟨z1, dz1, q, .ref l, .cleared, q, rfl, by omega, by omega, upd_same, Or.inr ⟨l, rfl, hl15.same (same_two hz1 hdz1)⟩, fun H16 l3 e16 h16 hl16 => ?_⟩
        obtain ⟨s16, hS16⟩ := set_made hz1 hdz1 e16 h16 hl16 q1 q2
        refine ⟨rfl, ?_⟩
        repeat walk_at "st"
        refine fun z dz hz hdz nez => ⟨z, dz, z1, _, rfl, upd_same, hS16.same (same_two hz hdz), rfl, ?_⟩
        have e17 : Same H16 (upd (upd (upd H16 dz (.own z)) z (.ins (cMst K) dz [])) z (.ins (cMst K) dz [("setting", .ref z1)])) := same_threeM hz hdz
        have hM17 : MstAt K (upd (upd (upd H16 dz (.own z)) z (.ins (cMst K) dz [])) z (.ins (cMst K) dz [("setting", .ref z1)])) z ⟨false, q, .cleared, q⟩ := ⟨dz, z1, upd_same, hS16.same e17⟩
        generalize upd (upd (upd H16 dz (.own z)) z (.ins (cMst K) dz [])) z (.ins (cMst K) dz [("setting", .ref z1)]) = H17 at e17 hM17 ⊢
        have hp17 := ((hp14.same e15).same s16).same e17
        have ok3 : SgOk ⟨false, q, .cleared, q⟩ := ⟨⟨show (1 : Int) ≤ q by omega, show (q : Int) ≤ 4096 by omega⟩, q1, q2⟩
        obtain ⟨dz17, a17, hz17, _⟩ := id hM17
        repeat walk_at "st"
        refine ⟨z, dz17, _, rfl, hz17, z, _, _, rfl, hM17, ok3, ⟨by omega, by omega⟩, (fun w => by cases w), fun H18 e18 => ?_⟩
        rw [told_cleared q1 q2]
        have hp18 := hp17.same e18
        repeat walk_at "st"
        refine w_iteF (by simp) ?_
        repeat walk_at "st"
        -- most(Hidden(size, Short(1)), 10 ** 30)
        refine fun l4 dl4 hl4 hdl4 nel4 => ⟨l4, dl4, 1, rfl, ⟨by decide, by decide⟩, upd_same, rfl, ?_⟩
        have e19 : Same H18 (upd (upd (upd H18 dl4 (.own l4)) l4 (.ins (cLim K .short) dl4 [])) l4 (.ins (cLim K .short) dl4 (limFs .short 1))) := same_threeM hl4 hdl4
        have hl19 : LimAt K (upd (upd (upd H18 dl4 (.own l4)) l4 (.ins (cLim K .short) dl4 [])) l4 (.ins (cLim K .short) dl4 (limFs .short 1))) l4 .short 1 := ⟨dl4, upd_same⟩
        generalize upd (upd (upd H18 dl4 (.own l4)) l4 (.ins (cLim K .short) dl4 [])) l4 (.ins (cLim K .short) dl4 (limFs .short 1)) = H19 at e19 hl19 ⊢
        repeat walk_at "st"
        refine fun u1 du1 hu1 hdu1 neu1 => ⟨u1, du1, q, .ref l4, .short, 1, rfl, by omega, by omega, upd_same, Or.inr ⟨l4, rfl, hl19.same (same_two hu1 hdu1)⟩, fun H20 l5 e20 h20 hl20 => ?_⟩
        obtain ⟨s20, hS20⟩ := set_made hu1 hdu1 e20 h20 hl20 q1 q2
        refine ⟨rfl, ?_⟩
        repeat walk_at "st"
        have ok4 : SgOk ⟨true, q, .short, 1⟩ := ⟨⟨show (1 : Int) ≤ 1 by decide, show (1 : Int) ≤ 64 by decide⟩, q1, q2⟩
        refine ⟨u1, ⟨true, q, .short, 1⟩, 10 ^ 30, rfl, hS20, ok4, ⟨by decide, by decide⟩, (fun w => by cases w), fun r3 H21 hr3 e21 => ?_⟩
        rw [hr3.one (most_short q1 q2)]
        have hp21 := ((hp18.same e19).same s20).same e21
        repeat walk_at "st"
        -- fewest(Told(size, Short(1)), 10 ** 30)
        refine fun l6 dl6 hl6 hdl6 nel6 => ⟨l6, dl6, 1, rfl, ⟨by decide, by decide⟩, upd_same, rfl, ?_⟩
        have e22 : Same H21 (upd (upd (upd H21 dl6 (.own l6)) l6 (.ins (cLim K .short) dl6 [])) l6 (.ins (cLim K .short) dl6 (limFs .short 1))) := same_threeM hl6 hdl6
        have hl22 : LimAt K (upd (upd (upd H21 dl6 (.own l6)) l6 (.ins (cLim K .short) dl6 [])) l6 (.ins (cLim K .short) dl6 (limFs .short 1))) l6 .short 1 := ⟨dl6, upd_same⟩
        generalize upd (upd (upd H21 dl6 (.own l6)) l6 (.ins (cLim K .short) dl6 [])) l6 (.ins (cLim K .short) dl6 (limFs .short 1)) = H22 at e22 hl22 ⊢
        repeat walk_at "st"
        refine fun u2 du2 hu2 hdu2 neu2 => ⟨u2, du2, q, .ref l6, .short, 1, rfl, by omega, by omega, upd_same, Or.inr ⟨l6, rfl, hl22.same (same_two hu2 hdu2)⟩, fun H23 l7 e23 h23 hl23 => ?_⟩
        obtain ⟨s23, hS23⟩ := set_made hu2 hdu2 e23 h23 hl23 q1 q2
        refine ⟨rfl, ?_⟩
        repeat walk_at "st"
        refine ⟨u2, ⟨false, q, .short, 1⟩, 10 ^ 30, rfl, hS23, ok4.lim, ⟨by decide, by decide⟩, fun r4 H24 e24 hr4 => ?_⟩
        rw [hr4.one few_short]
        have hp24 := ((hp21.same e22).same s23).same e24
        repeat walk_at "st"
        exact ⟨_, _, _, rfl, hp24.mono (by omega)⟩
      · rintro σ' H3 ⟨o6, o7, o8, rfl, hp4⟩
        repeat walk_at "st"
        refine fun u1 du1 hu1 hdu1 neu1 => ⟨u1, du1, 2, .non, .free, 0, rfl, by decide, by decide, upd_same, Or.inl ⟨rfl, rfl, rfl⟩, fun H5 l1 e5 h5 hl5 => ?_⟩
        obtain ⟨s5, hS5⟩ := set_made (q := 2) hu1 hdu1 e5 h5 hl5 (by decide) (by decide)
        refine ⟨rfl, ?_⟩
        repeat walk_at "st"
        refine ⟨u1, ⟨false, 2, .free, 0⟩, 10 ^ 30, rfl, hS5, ⟨rfl, by decide, by decide⟩, ⟨by decide, by decide⟩, (fun w => by cases w), fun r H6 hr e6 => ?_⟩
        repeat walk_at "st"
        rw [show V.int (r / (10 ^ Int.toNat 27)) = V.int 10 from congrArg V.int (far_ten hr), decide_eq_true rfl]
        exact k _
end

end Pt_law45
theorem facts {P : Program} {w : World} {K : PySem.W.Frag} {h : Heap} {mg : Str → Option Value} {f : Addr} (X : K.In h) (G : h.Ns mainGlobals mg) (hfa : mg ("law" : Str) = some (.ref f)) (c : GSays gfs gds K) :
    ∃ fd : FuncData, (∀ (s : Shared) (v : Value), BindsTo s fd ⟨[v], []⟩ [("script", v)]) ∧ ∀ base : Heap, K.In base → base.Ns mainGlobals mg → FnOk P w K mg base CX0 20 f fd ["script"] (spLaw K) := by
  have T : Txt K mg := ⟨He.free_ok X G (c.fact 34),
    He.free_ok X G (c.fact 35),
    He.free_ok X G (c.fact 36),
    He.free_ok X G (c.fact 37),
    He.free_ok X G (c.fact 38),
    He.free_ok X G (c.fact 39),
    He.free_ok X G (c.fact 40),
    He.free_ok X G (c.fact 41),
    He.free_ok X G (c.fact 42),
    He.free_ok X G (c.fact 43),
    He.free_ok X G (c.fact 44),
    He.free_ok X G (c.fact 45),
    He.free_ok X G (c.fact 46),
    He.free_ok X G (c.fact 47),
    glob_i (He.int_ok X G (c.fact 48)),
    glob_i (He.int_ok X G (c.fact 49)),
    glob_i (He.int_ok X G (c.fact 50)),
    glob_i (He.int_ok X G (c.fact 51)),
    glob_i (He.int_ok X G (c.fact 52)),
    glob_s (He.str_ok X G (c.fact 53)),
    fun k => match k with | .free => He.cls_ok (c.fact 54) | .short => He.cls_ok (c.fact 55) | .cleared => He.cls_ok (c.fact 56) | .standing => He.cls_ok (c.fact 57),
    fun k => match k with | .free => He.noat_ok (c.fact 58) | .short => He.noat_ok (c.fact 59) | .cleared => He.noat_ok (c.fact 60) | .standing => He.noat_ok (c.fact 61),
    He.noat_ok (c.fact 62),
    He.noat_ok (c.fact 63),
    He.noat_ok (c.fact 64),
    fun k => match k with | .free => He.mkr_ok (c.fact 65) | .short => He.mkr_ok (c.fact 66) | .cleared => He.mkr_ok (c.fact 67) | .standing => He.mkr_ok (c.fact 68),
    fun k => match k with | .free => He.glo_ok X G (c.fact 69) | .short => He.glo_ok X G (c.fact 70) | .cleared => He.glo_ok X G (c.fact 71) | .standing => He.glo_ok X G (c.fact 72),
    fun k => match k with | .free => isa_ok (c.fact 73) | .short => isa_ok (c.fact 74) | .cleared => isa_ok (c.fact 75) | .standing => isa_ok (c.fact 76),
    He.glo_ok X G (c.fact 77),
    He.glo_ok X G (c.fact 78),
    clsCon_ok (c.fact 79),
    clsCon_ok (c.fact 80),
    fun h => match h with | true => He.cls_ok (c.fact 81) | false => He.cls_ok (c.fact 82),
    fun h => match h with | true => He.noat_ok (c.fact 83) | false => He.noat_ok (c.fact 84),
    fun h => match h with | true => He.noat_ok (c.fact 85) | false => He.noat_ok (c.fact 86),
    fun h => match h with | true => He.mkr_ok (c.fact 87) | false => He.mkr_ok (c.fact 88),
    He.glo_ok X G (c.fact 89),
    He.glo_ok X G (c.fact 90),
    fun h => match h with | true => prop_ok (c.fact 91) | false => prop_ok (c.fact 92),
    He.glo_ok X G (c.fact 93),
    He.glo_ok X G (c.fact 94),
    He.cls_ok (c.fact 95),
    He.noat_ok (c.fact 96),
    He.mkr_ok (c.fact 97),
    call_ok (c.fact 98),
    fun k d => match k, d with | .free, .free => isaB_ok (c.fact 99) | .free, .short => isaB_ok (c.fact 100) | .free, .cleared => isaB_ok (c.fact 101) | .free, .standing => isaB_ok (c.fact 102) | .short, .free => isaB_ok (c.fact 103) | .short, .short => isaB_ok (c.fact 104) | .short, .cleared => isaB_ok (c.fact 105) | .short, .standing => isaB_ok (c.fact 106) | .cleared, .free => isaB_ok (c.fact 107) | .cleared, .short => isaB_ok (c.fact 108) | .cleared, .cleared => isaB_ok (c.fact 109) | .cleared, .standing => isaB_ok (c.fact 110) | .standing, .free => isaB_ok (c.fact 111) | .standing, .short => isaB_ok (c.fact 112) | .standing, .cleared => isaB_ok (c.fact 113) | .standing, .standing => isaB_ok (c.fact 114),
    fun h => match h with | true => isa_ok (c.fact 115) | false => isa_ok (c.fact 116),
    read_ok (c.fact 117),
    cm_ok (c.fact 118),
    fun k => match k with | .free => clsCon_ok (c.fact 119) | .short => clsCon_ok (c.fact 120) | .cleared => clsCon_ok (c.fact 121) | .standing => clsCon_ok (c.fact 122),
    fun h => match h with | true => clsCon_ok (c.fact 123) | false => clsCon_ok (c.fact 124),
    spec_ok (c.fact 125),
    spec_ok (c.fact 126),
    (c.fact 127),
    rop_ok rfl (c.fact 128),
    rop_ok rfl (c.fact 129),
    He.glo_ok X G (c.fact 130),
    (c.fact 131),
    fun h => match h with | true => isaB_ok (c.fact 132) | false => isaB_ok (c.fact 133),
    He.glo_ok X G (c.fact 134),
    He.cls_ok (c.fact 135),
    He.noat_ok (c.fact 136),
    He.mkr_ok (c.fact 137),
    call_ok (c.fact 138),
    spec_ok (c.fact 139),
    spec_ok (c.fact 140),
    (c.fact 141),
    rop_ok rfl (c.fact 142),
    rop_ok rfl (c.fact 143)⟩
  have F_is_int : FD K mg "is_int" s_is_int := fd_of (c.at_ 0 (d := gd0) rfl) (He.glo_ok X G (c.fact 0))
  have F_number_of : FD K mg "number_of" s_number_of := fd_of (c.at_ 1 (d := gd1) rfl) (He.glo_ok X G (c.fact 1))
  have F_Free___init__ : FA K "__init__" "Free.__init__" s_Free___init__ [] (He.ma K (cLim K .free) "__init__") := c.at_ 2 (d := gd2) rfl
  have F_need_setting : FD K mg "need_setting" s_need_setting := fd_of (c.at_ 3 (d := gd3) rfl) (He.glo_ok X G (c.fact 2))
  have F_first_level : FD K mg "first_level" s_first_level := fd_of (c.at_ 4 (d := gd4) rfl) (He.glo_ok X G (c.fact 3))
  have F_filled_but : FD K mg "filled_but" s_filled_but := fd_of (c.at_ 5 (d := gd5) rfl) (He.glo_ok X G (c.fact 4))
  have F_letters_in : FD K mg "letters_in" s_letters_in := fd_of (c.at_ 6 (d := gd6) rfl) (He.glo_ok X G (c.fact 5))
  have F_added : FD K mg "added" s_added := fd_of (c.at_ 7 (d := gd7) rfl) (He.glo_ok X G (c.fact 6))
  have F_law_pen : FD K mg "_law_pen" s_law_pen := fd_of (c.at_ 8 (d := gd8) rfl) (He.glo_ok X G (c.fact 7))
  have F_law_draw : FD K mg "_law_draw" s_law_draw := fd_of (c.at_ 9 (d := gd9) rfl) (He.glo_ok X G (c.fact 8))
  have F_is_between : FD K mg "is_between" s_is_between := fd_of (c.at_ 10 (d := gd10) rfl) (He.glo_ok X G (c.fact 9))
  have F_Most___init__ : FA K "__init__" "Most.__init__" s_Most___init__ [] (He.ma K (He.ga K "Most") "__init__") := c.at_ 11 (d := gd11) rfl
  have F_Fewest___init__ : FA K "__init__" "Fewest.__init__" s_Fewest___init__ [] (He.ma K (He.ga K "Fewest") "__init__") := c.at_ 12 (d := gd12) rfl
  have F_need_number : FD K mg "need_number" s_need_number := fd_of (c.at_ 13 (d := gd13) rfl) (He.glo_ok X G (c.fact 10))
  have F_need_letters : FD K mg "need_letters" s_need_letters := fd_of (c.at_ 14 (d := gd14) rfl) (He.glo_ok X G (c.fact 11))
  have F_Short___init__ : FA K "__init__" "Short.__init__" s_Short___init__ [] (He.ma K (cLim K .short) "__init__") := c.at_ 15 (d := gd15) rfl
  have F_Cleared___init__ : FA K "__init__" "Cleared.__init__" s_Cleared___init__ [] (He.ma K (cLim K .cleared) "__init__") := c.at_ 16 (d := gd16) rfl
  have F_Standing___init__ : FA K "__init__" "Standing.__init__" s_Standing___init__ [] (He.ma K (cLim K .standing) "__init__") := c.at_ 17 (d := gd17) rfl
  have F_spared_counts : FD K mg "spared_counts" s_spared_counts := fd_of (c.at_ 18 (d := gd18) rfl) (He.glo_ok X G (c.fact 12))
  have F_is_loose : FD K mg "is_loose" s_is_loose := fd_of (c.at_ 19 (d := gd19) rfl) (He.glo_ok X G (c.fact 13))
  have F_longest_code : FD K mg "longest_code" s_longest_code := fd_of (c.at_ 20 (d := gd20) rfl) (He.glo_ok X G (c.fact 14))
  have F_need_size : FD K mg "need_size" s_need_size := fd_of (c.at_ 21 (d := gd21) rfl) (He.glo_ok X G (c.fact 15))
  have F_limit_at : FD K mg "limit_at" s_limit_at := fd_of (c.at_ 22 (d := gd22) rfl) (He.glo_ok X G (c.fact 16))
  have F_spared_for : FD K mg "spared_for" s_spared_for := fd_of (c.at_ 23 (d := gd23) rfl) (He.glo_ok X G (c.fact 17))
  have F_need_told : FD K mg "need_told" s_need_told := fd_of (c.at_ 24 (d := gd24) rfl) (He.glo_ok X G (c.fact 18))
  have F_greatest_of : FD K mg "greatest_of" s_greatest_of := fd_of (c.at_ 25 (d := gd25) rfl) (He.glo_ok X G (c.fact 19))
  have F_fewest_of : FD K mg "fewest_of" s_fewest_of := fd_of (c.at_ 26 (d := gd26) rfl) (He.glo_ok X G (c.fact 20))
  have F_Fewest___getitem__ : FA K "__getitem__" "Fewest.__getitem__" s_Fewest___getitem__ [] (He.ma K (He.ga K "Fewest") "__getitem__") := c.at_ 27 (d := gd27) rfl
  have F_setting_at : FD K mg "setting_at" s_setting_at := fd_of (c.at_ 28 (d := gd28) rfl) (He.glo_ok X G (c.fact 21))
  have F_counts_for : FD K mg "counts_for" s_counts_for := fd_of (c.at_ 29 (d := gd29) rfl) (He.glo_ok X G (c.fact 22))
  have F_told_fewest : FD K mg "told_fewest" s_told_fewest := fd_of (c.at_ 30 (d := gd30) rfl) (He.glo_ok X G (c.fact 23))
  have F_Setting_read : FA K "read" "Setting.read" s_Setting_read [] (He5.wf K (He.ga K "Setting") "classmethod" "read") := c.at_ 31 (d := gd31) rfl
  have F_least_of : FD K mg "least_of" s_least_of := fd_of (c.at_ 32 (d := gd32) rfl) (He.glo_ok X G (c.fact 24))
  have F_Fewest___call__ : FA K "__call__" "Fewest.__call__" s_Fewest___call__ [] (He.ma K (He.ga K "Fewest") "__call__") := c.at_ 33 (d := gd33) rfl
  have F_Fewest___rfloordiv__ : FA K "__rfloordiv__" "Fewest.__rfloordiv__" s_Fewest___rfloordiv__ [] (He.ma K (He.ga K "Fewest") "__rfloordiv__") := c.at_ 34 (d := gd34) rfl
  have F_Fewest___rmod__ : FA K "__rmod__" "Fewest.__rmod__" s_Fewest___rmod__ [] (He.ma K (He.ga K "Fewest") "__rmod__") := c.at_ 35 (d := gd35) rfl
  have F_Fewest___contains__ : FA K "__contains__" "Fewest.__contains__" s_Fewest___contains__ [] (He.ma K (He.ga K "Fewest") "__contains__") := c.at_ 36 (d := gd36) rfl
  have F_greatest_letters : FD K mg "greatest_letters" s_greatest_letters := fd_of (c.at_ 37 (d := gd37) rfl) (He.glo_ok X G (c.fact 25))
  have F_Most___getitem__ : FA K "__getitem__" "Most.__getitem__" s_Most___getitem__ [] (He.ma K (He.ga K "Most") "__getitem__") := c.at_ 38 (d := gd38) rfl
  have F_need_told_of : FD K mg "need_told_of" s_need_told_of := fd_of (c.at_ 39 (d := gd39) rfl) (He.glo_ok X G (c.fact 26))
  have F_most_of : FD K mg "most_of" s_most_of := fd_of (c.at_ 40 (d := gd40) rfl) (He.glo_ok X G (c.fact 27))
  have F_fewest : FD K mg "fewest" s_fewest := fd_of (c.at_ 41 (d := gd41) rfl) (He.glo_ok X G (c.fact 28))
  have F_told_most : FD K mg "told_most" s_told_most := fd_of (c.at_ 42 (d := gd42) rfl) (He.glo_ok X G (c.fact 29))
  have F_least_letters : FD K mg "least_letters" s_least_letters := fd_of (c.at_ 43 (d := gd43) rfl) (He.glo_ok X G (c.fact 30))
  have F_Most___call__ : FA K "__call__" "Most.__call__" s_Most___call__ [] (He.ma K (He.ga K "Most") "__call__") := c.at_ 44 (d := gd44) rfl
  have F_Most___rfloordiv__ : FA K "__rfloordiv__" "Most.__rfloordiv__" s_Most___rfloordiv__ [] (He.ma K (He.ga K "Most") "__rfloordiv__") := c.at_ 45 (d := gd45) rfl
  have F_Most___rmod__ : FA K "__rmod__" "Most.__rmod__" s_Most___rmod__ [] (He.ma K (He.ga K "Most") "__rmod__") := c.at_ 46 (d := gd46) rfl
  have F_Most___contains__ : FA K "__contains__" "Most.__contains__" s_Most___contains__ [] (He.ma K (He.ga K "Most") "__contains__") := c.at_ 47 (d := gd47) rfl
  have F_most : FD K mg "most" s_most := fd_of (c.at_ 48 (d := gd48) rfl) (He.glo_ok X G (c.fact 31))
  have F_law_steps_right : FD K mg "_law_steps_right" s_law_steps_right := fd_of (c.at_ 49 (d := gd49) rfl) (He.glo_ok X G (c.fact 32))
  obtain ⟨fd, F⟩ := c.at_ 50 (d := gd50) rfl
  have e := hfa.symm.trans (He.glo_ok X G (c.fact 33 (f := fun K => (He.Fa.glo "law").ok K) rfl))
  cases e
  have b := FunD.bindsA (ps := ["script"]) F fun _ _ _ _ _ _ us hl => match us, hl with | [_], _ => rfl
  refine ⟨fd, fun s v => b s [v] rfl, fun base _ _ => ?_⟩
  have c_is_int : Dn P w K mg base 1 "is_int" s_is_int ["value"] (spIsInt) := d_is_int T F_is_int
  have c_number_of : Dn P w K mg base 1 "number_of" s_number_of ["word", "least", "most"] (spNumOf) := d_number_of T F_number_of
  have c_Free___init__ : Fr P w K mg base 1 (He.ma K (cLim K .free) "__init__") ["self"] [] (spLimInit K .free) := d_Free___init__ T F_Free___init__
  have c_need_setting : Dn P w K mg base 1 "need_setting" s_need_setting ["value", "part"] (spNeedSet K) := d_need_setting T F_need_setting
  have c_first_level : Dn P w K mg base 1 "first_level" s_first_level ["setting"] (spFirst K) := d_first_level T F_first_level
  have c_filled_but : Dn P w K mg base 1 "filled_but" s_filled_but ["letters", "many", "spared"] (spFillBut) := d_filled_but T F_filled_but
  have c_letters_in : Dn P w K mg base 1 "letters_in" s_letters_in ["counts"] (spLetIn) := d_letters_in T F_letters_in
  have c_added : Dn P w K mg base 1 "added" s_added ["counts", "others"] (spAdded) := d_added T F_added
  have c_law_pen : Dn P w K mg base 1 "_law_pen" s_law_pen ["script"] (spPen K) := d_law_pen T F_law_pen
  have c_law_draw : Dn P w K mg base 1 "_law_draw" s_law_draw ["pen", "many"] (spDraw) := d_law_draw T F_law_draw
  have c_set_limit : ∀ h : Bool, Fr P w K mg base 1 (gtA K (cSet K h) "limit") ["self"] [] (spSetLimit K h) := fun h => match h with | true => d_Setting_limit T true (c.at_ 51 (d := gd51) rfl) | false => d_Setting_limit T false (c.at_ 52 (d := gd52) rfl)
  have c_is_between : Dn P w K mg base 2 "is_between" s_is_between ["value", "least", "most"] (spBetween) := d_is_between T F_is_between c_is_int
  have c_Most___init__ : Fr P w K mg base 2 (He.ma K (He.ga K "Most") "__init__") ["self", "setting"] [] (spMostInit K) := d_Most___init__ T F_Most___init__ c_need_setting
  have c_Fewest___init__ : Fr P w K mg base 2 (He.ma K (He.ga K "Fewest") "__init__") ["self", "setting"] [] (spFewInit K) := d_Fewest___init__ T F_Fewest___init__ c_need_setting
  have c_filled2 : Fr P w K mg base 2 (He.ga K "filled") ["setting", "many", "deepest"] [.non] (spFilled K) := filled2 T (c.at_ 55 (d := gd55) rfl) c_first_level
  have c_filled3 : Fr P w K mg base 2 (He.ga K "filled") ["setting", "many", "deepest"] [] (spFilled K) := filled3 T (c.at_ 55 (d := gd55) rfl) c_first_level
  have c_few_initK : FrK P w K mg base 2 (He.ma K (He.ga K "Fewest") "__init__") ["self", "setting"] ["setting"] [0, 1] (spFewInit K) := few_initK T (c.at_ 12 (d := gd12) rfl) c_need_setting
  have c_need_number : Dn P w K mg base 3 "need_number" s_need_number ["value", "least", "most"] (spNeedNum) := d_need_number T F_need_number c_is_between
  have c_need_letters : Dn P w K mg base 3 "need_letters" s_need_letters ["value"] (spNeedL) := d_need_letters T F_need_letters c_is_between
  have c_Short___init__ : Fr P w K mg base 3 (He.ma K (cLim K .short) "__init__") ["self", "longest"] [] (spLimInit K .short) := d_Short___init__ T F_Short___init__ c_is_between
  have c_Cleared___init__ : Fr P w K mg base 3 (He.ma K (cLim K .cleared) "__init__") ["self", "many"] [] (spLimInit K .cleared) := d_Cleared___init__ T F_Cleared___init__ c_is_between
  have c_Standing___init__ : Fr P w K mg base 3 (He.ma K (cLim K .standing) "__init__") ["self", "many"] [] (spLimInit K .standing) := d_Standing___init__ T F_Standing___init__ c_is_between
  have c_spared_counts : Dn P w K mg base 3 "spared_counts" s_spared_counts ["setting", "many", "spared"] (spSparedC K) := d_spared_counts T F_spared_counts c_added c_filled_but c_set_limit
  have c_is_loose : Dn P w K mg base 3 "is_loose" s_is_loose ["setting"] (spLoose K) := d_is_loose T F_is_loose c_first_level c_set_limit
  have c_longest_code : Dn P w K mg base 3 "longest_code" s_longest_code ["setting"] (spLongC K) := d_longest_code T F_longest_code c_set_limit
  have c_need_size : Dn P w K mg base 4 "need_size" s_need_size ["value"] (spNeedSize) := d_need_size T F_need_size c_need_number
  have c_limit_at : Dn P w K mg base 5 "limit_at" s_limit_at ["words", "at"] (spLimitAt K) := d_limit_at T F_limit_at c_number_of c_Free___init__ c_Short___init__ c_Cleared___init__ c_Standing___init__
  have c_spared_for : Dn P w K mg base 5 "spared_for" s_spared_for ["setting", "many"] (spSparedF K) := d_spared_for T F_spared_for c_letters_in c_spared_counts c_filled2 c_set_limit
  have c_need_told : Dn P w K mg base 5 "need_told" s_need_told ["setting", "codes"] (spNeedTold K) := d_need_told T F_need_told c_is_loose c_set_limit
  have c_greatest_of : Dn P w K mg base 5 "greatest_of" s_greatest_of ["setting", "codes"] (spGreat K) := d_greatest_of T F_greatest_of c_longest_code c_set_limit
  have c_set_init1 : ∀ h : Bool, Fr P w K mg base 5 (He.ma K (cSet K h) "__init__") ["self", "letters", "limit"] [.non] (spSetInit K h) := fun h => match h with | true => init1 T true (c.at_ 53 (d := gd53) rfl) c_need_letters c_Free___init__ | false => init1 T false (c.at_ 54 (d := gd54) rfl) c_need_letters c_Free___init__
  have c_set_init2 : ∀ h : Bool, Fr P w K mg base 5 (He.ma K (cSet K h) "__init__") ["self", "letters", "limit"] [] (spSetInit K h) := fun h => match h with | true => init2 T true (c.at_ 53 (d := gd53) rfl) c_need_letters c_Free___init__ | false => init2 T false (c.at_ 54 (d := gd54) rfl) c_need_letters c_Free___init__
  have c_fewest_of : Dn P w K mg base 6 "fewest_of" s_fewest_of ["setting", "size"] (spFewOf K) := d_fewest_of T F_fewest_of c_greatest_of
  have c_Fewest___getitem__ : Fr P w K mg base 6 (He.ma K (He.ga K "Fewest") "__getitem__") ["self", "c"] [] (spFewItem K) := d_Fewest___getitem__ T F_Fewest___getitem__ c_need_size c_greatest_of
  have c_setting_at : Dn P w K mg base 7 "setting_at" s_setting_at ["words", "at"] (spSettingAt K) := d_setting_at T F_setting_at c_number_of c_limit_at c_set_init2
  have c_counts_for : Dn P w K mg base 7 "counts_for" s_counts_for ["setting", "many"] (spCounts K) := d_counts_for T F_counts_for c_spared_counts c_added c_spared_for c_set_limit c_filled2 c_filled3
  have c_told_fewest : Dn P w K mg base 7 "told_fewest" s_told_fewest ["setting", "n"] (spToldF K) := d_told_fewest T F_told_fewest c_need_size c_fewest_of
  have c_Setting_read : Fr P w K mg base 8 (He5.wf K (He.ga K "Setting") "classmethod" "read") ["cls", "text"] [] (spSetRead K) := d_Setting_read T F_Setting_read c_setting_at
  have c_least_of : Dn P w K mg base 8 "least_of" s_least_of ["setting", "codes"] (spLeast K) := d_least_of T F_least_of c_letters_in c_counts_for
  have c_Fewest___call__ : Fr P w K mg base 8 (He.ma K (He.ga K "Fewest") "__call__") ["self", "n"] [] (spFewCall K) := d_Fewest___call__ T F_Fewest___call__ c_told_fewest
  have c_Fewest___rfloordiv__ : Fr P w K mg base 8 (He.ma K (He.ga K "Fewest") "__rfloordiv__") ["self", "number"] [] (spFewCall K) := d_Fewest___rfloordiv__ T F_Fewest___rfloordiv__ c_told_fewest
  have c_Fewest___rmod__ : Fr P w K mg base 8 (He.ma K (He.ga K "Fewest") "__rmod__") ["self", "number"] [] (spFewMod K) := d_Fewest___rmod__ T F_Fewest___rmod__ c_greatest_of c_told_fewest
  have c_Fewest___contains__ : Fr P w K mg base 8 (He.ma K (He.ga K "Fewest") "__contains__") ["self", "value"] [] (spFewIn K) := d_Fewest___contains__ T F_Fewest___contains__ c_is_between c_greatest_of c_told_fewest
  have c_greatest_letters : Dn P w K mg base 8 "greatest_letters" s_greatest_letters ["setting", "c"] (spGreatL K) := d_greatest_letters T F_greatest_letters c_Fewest___init__ c_Fewest___getitem__
  have c_Most___getitem__ : Fr P w K mg base 9 (He.ma K (He.ga K "Most") "__getitem__") ["self", "c"] [] (spMostItem K) := d_Most___getitem__ T F_Most___getitem__ c_need_size c_need_told c_least_of
  have c_need_told_of : Dn P w K mg base 10 "need_told_of" s_need_told_of ["setting", "size"] (spNeedToldOf K) := d_need_told_of T F_need_told_of c_is_loose c_least_of c_set_limit
  have c_most_of : Dn P w K mg base 10 "most_of" s_most_of ["setting", "size"] (spMostOf K) := d_most_of T F_most_of c_is_loose c_least_of c_set_limit
  have c_fewest : Dn P w K mg base 10 "fewest" s_fewest ["setting", "n"] (spFewest K) := d_fewest T F_fewest c_Fewest___init__ c_Fewest___call__
  have c_told_most : Dn P w K mg base 11 "told_most" s_told_most ["setting", "n"] (spToldM K) := d_told_most T F_told_most c_need_size c_need_told_of c_most_of
  have c_least_letters : Dn P w K mg base 11 "least_letters" s_least_letters ["setting", "c"] (spLeastL K) := d_least_letters T F_least_letters c_Most___init__ c_Most___getitem__
  have c_Most___call__ : Fr P w K mg base 12 (He.ma K (He.ga K "Most") "__call__") ["self", "n"] [] (spMostCall K) := d_Most___call__ T F_Most___call__ c_told_most
  have c_Most___rfloordiv__ : Fr P w K mg base 12 (He.ma K (He.ga K "Most") "__rfloordiv__") ["self", "number"] [] (spMostCall K) := d_Most___rfloordiv__ T F_Most___rfloordiv__ c_told_most
  have c_Most___rmod__ : Fr P w K mg base 12 (He.ma K (He.ga K "Most") "__rmod__") ["self", "number"] [] (spMostMod K) := d_Most___rmod__ T F_Most___rmod__ c_least_of c_told_most
  have c_Most___contains__ : Fr P w K mg base 12 (He.ma K (He.ga K "Most") "__contains__") ["self", "value"] [] (spMostIn K) := d_Most___contains__ T F_Most___contains__ c_is_between c_least_of c_told_most
  have c_most : Dn P w K mg base 14 "most" s_most ["setting", "n"] (spMost K) := d_most T F_most c_Most___init__ c_Most___call__
  have c_law_steps_right : Dn P w K mg base 17 "_law_steps_right" s_law_steps_right ["text", "steps", "slow"] (spSteps K) := d_law_steps_right T F_law_steps_right c_most c_least_letters c_fewest c_greatest_letters c_Most___init__ c_Most___call__ c_Most___getitem__ c_Most___rfloordiv__ c_Most___rmod__ c_Most___contains__ c_Fewest___init__ c_Fewest___call__ c_Fewest___getitem__ c_Fewest___rfloordiv__ c_Fewest___rmod__ c_Fewest___contains__ c_Setting_read c_few_initK
  exact law_ok T F c_law_pen c_law_steps_right c_law_draw c_most c_fewest c_Most___init__ c_Most___call__ c_Most___getitem__ c_set_init1 c_set_init2 c_Short___init__ c_Cleared___init__
end LB
open PySem PySem.W PySem.Calls PyProof.Rows
set_option maxHeartbeats 0 in
theorem PySem.Challenge.cw_learntbooks_k45_known_staircases_holds : PySem.Challenge.rw_learntbooks_k45_known_staircases.Holds := by
  w_on; o_law
  refine HandSHeadRun.head_any (r := OpenLaw.row PySem.Challenge.rw_learntbooks_k45_known_staircases) (q := view (OpenLaw.row PySem.Challenge.rw_learntbooks_k45_known_staircases).prog [77]) (H := LB.hk) (ob := LB.ob) (M := 40000) (loose := LB.loose) (d := HandSHeadRun.topDef (OpenLaw.row PySem.Challenge.rw_learntbooks_k45_known_staircases).prog 77) (kwd := []) LB.ob_eq
    (by kernel_rfl) (fun s => by kernel_rfl) LB.run (by kernel_rfl) (by kernel_rfl) (by kernel_rfl) (by rfl) (by first | assumption | decide +kernel) (by decide +kernel) ⟨rfl, rfl, rfl, rfl, rfl, by decide +kernel⟩ ?hw ?hc
  case hw => w_witness2
  case hc =>
    refine L2.walk_ofE (l := PySem.Challenge.rw_learntbooks_k45_known_staircases) (n := 63) (k := 20) (x := "script") (CX := L2.CX0) rfl (by decide) (by kernel_rfl) ⟨rfl, by decide, by decide⟩ ?F (fun _ _ _ _ z => z)
    intro w mg fa h Y G hmg0
    obtain ⟨K, KX, c⟩ := Y
    have hmg : mg ("law" : PySem.Str) = some (.ref fa) := by
      have e : (HandSHeadRun.topDef (OpenLaw.row PySem.Challenge.rw_learntbooks_k45_known_staircases).prog 77).name = ("law" : PySem.Str) := by kernel_rfl
      rw [← e]
      exact hmg0
    obtain ⟨fd, hb, hF⟩ := LB.facts (P := (PySem.Challenge.rw_learntbooks_k45_known_staircases).prog) (w := w) KX G hmg c
    exact ⟨K, fd, LB.spLaw K, KX, hb, fun H a ns hl _ hS => LB.law_start hS hl, hF⟩
#print axioms PySem.Challenge.cw_learntbooks_k45_known_staircases_holds

