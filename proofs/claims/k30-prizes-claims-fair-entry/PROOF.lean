import PyProof.Rows.All
import Wide.All
import OpenK.AllK
import Wide.FinOn
import HandS.ForMost
import HandS.ForExc
import HandS.Wide
import HandS.StrMore
import HandS.StrSplit
import HandS.IsInst
import HandS.WrittenGet
import HandS.Walk
import HandS.Codes
import HandS.ExcInit
import HandS.Exc
import HandS.ExcOwn
import HandS.ExcField
import HandS.WordsExc
import HandS.NoneIn
import HandS.RevRange
import HandS.Zip
import HandS.HotCalls
import HandS.ExcInitHot
import HandS.Lambda
import HandS.EndTab
import KE.KExcIs
import KE.KNestM
import HandS.Conv
import HandS.TupLe
import HandS.SetFor
import PySem.Challenge.RW_whoeverwins_k30_prizes_claims_and_the_fa
set_option Elab.async false
set_option linter.all false
set_option maxRecDepth 100000
set_option maxHeartbeats 4000000
set_option Elab.async false
set_option linter.all false
set_option maxRecDepth 100000
set_option maxHeartbeats 4000000
namespace Rl
open PySem PySem.Spec PyProof.Rows L2

section
variable {X : Cx}
/-- xs[i] of a list, for an augmented store -/
theorem get_list : PGet X (rIxL X.K) := by
  intro pins s σ H x y v u Q I rx ry h
  obtain ⟨p, xs, i, z, rfl, rfl, hq, he, q⟩ := h
  cases rx
  obtain ⟨t, rfl⟩ := ry
  obtain ⟨its, r, pl, hz⟩ := I.list hq
  obtain ⟨j, h1, h2, h3, h4, h5⟩ := atI_get he
  obtain ⟨w, ew, rw'⟩ := r.get h2
  have hl := r.length
  have hn := line63
  have fin : EP X pins σ Q w s := ⟨z, H, I, rw', q⟩
  by_cases h0 : 0 ≤ i
  · have hj : i.toNat = j := by
      rw [seqIndex_of h0 h5] at h1
      exact Option.some.inj h1
    exact wpAny_getItem_list pl.isList h0 (by omega) (by rw [hj]; simpa using ew) fin
  · have hj : (i + (its.toArray.size : Int)).toNat = j := by
      rw [seqIndex_neg (by omega) h4] at h1
      rw [List.size_toArray, ← hl]
      exact Option.some.inj h1
    exact wpAny_getItem_list_neg pl.isList (by omega) (by rw [List.size_toArray] <;> omega) (by omega) (by rw [hj]; simpa using ew) fin
end

/-! enumerate of a text -/
def ItS (x : Str) : It :=
  ⟨fun i _ => i < x.cps.size, fun i H v H' => ∃ T c, v = .ref T ∧ H T = none ∧ H' = upd H T (.tup [.int (i : Nat), .str ⟨#[c]⟩]) ∧ x.cps[i]? = some c, fun i _ => x.cps.size ≤ i⟩
theorem drawsS {P : Program} {w : World} {A : Around} (hh : A.handled = none) (it : Addr) (x : Str) (t : Tok) :
    PySem.Draws P w A it [it] x.cps.size (fun i v => ∃ c u, x.cps[i]? = some c ∧ v = .str ⟨#[c]⟩ u) (fun i h => h.IsStrIter it (strIterType x) x t i) := by
  unfold strIterType
  cases x.cps.all (· < 128)
  · exact Draws.strWide hh it x t
  · exact Draws.strAscii hh it x t
theorem turn_enumS {P : Program} {w : World} {K : PySem.W.Frag} {elts : List Expr} {kk : Nat} {tpos : Pos} (x : Str) (t : Tok) (e it : Addr) :
    Turn P w K (.Tuple elts kk tpos) (ItS x) [e, it] e (fun i h => (∃ old, IsEnum h e it ((i : Nat) : Int) old) ∧ h.IsStrIter it (strIterType x) x t i ∧ e ≠ it ∧ i ≤ x.cps.size) where
  mem := by simp
  obj := fun i h st b hb => by
    obtain ⟨⟨old, he⟩, ⟨o, ho, hc, hd⟩, _, _⟩ := st
    have e' : b = e ∨ b = it := by simpa using hb
    rcases e' with z | z
    · rw [z]; exact ⟨_, he, fun v q => nomatch q⟩
    · rw [z]; exact ⟨o, ho, fun v q => by rw [hd] at q; cases q⟩
  keep := fun i h h' st k => let ⟨⟨old, he⟩, hi, hne⟩ := st; ⟨⟨old, k e (by simp) _ he⟩, let ⟨o, ho, r⟩ := hi; ⟨o, k it (by simp) o ho, r⟩, hne⟩
  item := by
    intro X hP hw hK hc i pins s σ H E I hf st hg
    subst hP hw hK
    obtain ⟨⟨old, he⟩, hit, hne, hle⟩ := st
    have hel : e < s.heap.objs.size := Heap.lt_size he
    have hil : it < s.heap.objs.size := by obtain ⟨_, q, _⟩ := hit; exact Heap.lt_size q
    have D := drawsS (P := X.prog) (w := X.w) (A := X.A.in1) (I.ok.hd hc) it x t
    refine wpAny_pyNext_enum_itemD D he hit hg hne (by simpa using hne) fun y h' tk hP ho hit' hT hsz hk => ?_
    obtain ⟨c, u, hcx, rfl⟩ := hP
    refine ⟨_, rfl, wpAny_letOwnedTupleGo_enum (s := { s with heap := h', toks := tk + 1 }) ho fun h'' he' sb => ?_⟩
    have hT2 : h''.get? s.heap.objs.size = some { cls := .type "tuple", data := .seq #[.int i tk, .str ⟨#[c]⟩ u] } := (sb.2 _ (Nat.ne_of_gt hel)).trans hT
    have new : ObjOk X.prog X.w (upd H s.heap.objs.size (.tup [.int (i : Nat), .str ⟨#[c]⟩])) h'' s.heap.objs.size (.tup [.int (i : Nat), .str ⟨#[c]⟩]) :=
      ⟨by show 2 ≤ sizeLine; decide, [.int i tk, .str ⟨#[c]⟩ u], .cons ⟨_, rfl⟩ (.cons ⟨_, rfl⟩ .nil), ⟨_, hT2, rfl, _, rfl⟩⟩
    have I1 : Inv X pins σ (upd H s.heap.objs.size (.tup [.int (i : Nat), .str ⟨#[c]⟩])) { s with heap := h'', toks := tk + 1 } :=
      I.turnedNew (ch := [e, it]) (fun b ob hb q => (sb.2 b (fun z => hb (by simp [z]))).trans (hk b ob (fun z => hb (by simp [z])) (fun z => hb (by simp [z])) q)) hf (Nat.le_refl _) new
    refine ⟨.ref s.heap.objs.size, _, I1, rfl, ⟨_, c, rfl, I.hok.fresh (Nat.le_refl _), rfl, hcx⟩, ⟨⟨.str ⟨#[c]⟩ u, ?_⟩, ?_, hne, hg⟩, fun b hb => ?_⟩
    · have e1 : ((i + 1 : Nat) : Int) = (i : Int) + 1 := by omega
      rw [e1]; exact he'
    · obtain ⟨o, ho', r⟩ := hit'
      exact ⟨o, (sb.2 it (Ne.symm hne)).trans ho', r⟩
    · have hb' : b < s.heap.objs.size := by
        have e' : b = e ∨ b = it := by simpa using hb
        rcases e' with z | z
        · rw [z]; exact hel
        · rw [z]; exact hil
      rw [upd_ne (Nat.ne_of_lt hb')]
      exact (hf b hb).1
  done := by
    intro X hP hw hK hc i pins s σ H E I hf st hg
    subst hP hw hK
    obtain ⟨⟨old, he⟩, hit, hne, hle⟩ := st
    obtain ⟨f0, f1, f2, f3, f4, f5⟩ := hf it (by simp)
    have D := drawsS (P := X.prog) (w := X.w) (A := X.A.in1) (I.ok.hd hc) it x t
    have hge : x.cps.size ≤ i := hg
    have e1 : i = x.cps.size := Nat.le_antisymm hle hge
    subst e1
    exact wpAny_pyNext_enum_endD D he hit fun h' eb => ⟨rfl, I.turned (t' := s.toks) (fun b o hb q => eb b o hb q) f0 f1 f3 f4 f5⟩
  self := fun A i s Q E st h => let ⟨⟨_, he⟩, _⟩ := st; wpAny_pyIter_enum he h
def iEnumS (ta : TA) : TI := fun σ H R => ta σ H fun vs H1 => ∃ x, vs = [.str x] ∧ R (ItS x) H1
theorem pi_enumS {X : Cx} {e : Expr} {ta : TA} {p pos tpos : Pos} {elts : List Expr} {kk : Nat} (hg : Gl X "enumerate") (hm : X.mg "enumerate" = none) (ha : PA X [e] ta) (hs : starEach [e] X.env = [(false, eval e X.env)] := by rfl) :
    PI X (.Tuple elts kk tpos) (.Call (.Name "enumerate" p) [e] [] pos) (iEnumS ta) := by
  refine ⟨fun pins s σ H R I h => ?_⟩
  refine Call_ (ld_blt I hg hm boot_enumerate (PyProof.Rows.callWith_type1 (thn (ha.run pos pins s σ H _ I h) fun us s1 ⟨vs, H1, I1, r1, q1⟩ => ?_) hs rfl))
  obtain ⟨x, ex, q⟩ := q1
  subst ex
  cases r1 with
  | cons r rr =>
    cases rr
    obtain ⟨t, rfl⟩ := r
    refine call_enumerate_str fun h' he hit hsz hk => wpAny_pyIter_enum he ?_
    have I2 : Inv X pins σ H1 { s1 with heap := h' } := I1.kept (t' := s1.toks) hk
    refine ⟨s1.heap.objs.size + 1, [s1.heap.objs.size + 1, s1.heap.objs.size], _, _, H1, rfl, I2, turn_enumS x t (s1.heap.objs.size + 1) s1.heap.objs.size, ⟨⟨.none, he⟩, hit, Nat.succ_ne_self _, Nat.zero_le _⟩, fun b hb => ?_, q⟩
    have e' : b = s1.heap.objs.size + 1 ∨ b = s1.heap.objs.size := by simpa using hb
    have hle : s1.heap.objs.size ≤ b := by
      rcases e' with z | z
      · rw [z]; exact Nat.le_add_right _ _
      · rw [z]; exact Nat.le_refl _
    exact I1.fpOk hle (I1.hok.fresh hle)
end Rl

set_option Elab.async false
set_option linter.all false
set_option maxRecDepth 100000
set_option maxHeartbeats 4000000
namespace Eg
open PySem PySem.Spec PyProof.Rows L2 Rl

/-! operators by values, every kind that the texts use -/
def uAdd (K : PySem.W.Frag) : R2 := fun x y H Q => rI0 (fun i j => .int (i + j)) x y H Q ∨ (∃ i j, x = .str i ∧ y = .str j ∧ i.length + j.length ≤ sizeLine ∧ Q (.str (i ++ j)) H) ∨ rCat x y H Q ∨ rCatT K x y H Q
def uMul : R2 := rI (fun i j => CMul i j ∨ CMulW i j) fun i j => .int (i * j)
def uDiv : R2 := rI (fun i j => CDiv i j ∨ CDivW i j) fun i j => .int (i / j)
def uEq (K : PySem.W.Frag) : R2 := fun x y H Q => rEq x y H Q ∨ rEqD K x y H Q
def uNe (K : PySem.W.Frag) : R2 := fun x y H Q => rNe x y H Q ∨ rNeD K x y H Q
def uIn (K : PySem.W.Frag) : R2 := fun x y H Q => (∃ (c : Nat) (z : Str), x = .str ⟨#[c]⟩ ∧ y = .str z ∧ Q (.bl (decide (c ∈ z.cps.toList))) H) ∨ rIn K false x y H Q
def uNotIn (K : PySem.W.Frag) : R2 := fun x y H Q => (∃ (c : Nat) (z : Str), x = .str ⟨#[c]⟩ ∧ y = .str z ∧ Q (.bl (!decide (c ∈ z.cps.toList))) H) ∨ rIn K true x y H Q
def uLen (K : PySem.W.Frag) : List V → Hp → VK → Prop := fun xs H Q => ∃ x n, xs = [x] ∧ LenV K x H n ∧ Q (.int n) H
section
variable {X : Cx}
theorem op_uAdd : OpR X (binaryOp .Add) (uAdd X.K) := op_add.or (op_add_str.or (op_cat.or op_catT))
theorem op_uMul : OpR X (binaryOp .Mult) uMul := by
  intro pins s σ H x y v u Q I rx ry h
  obtain ⟨i, j, e1, e2, hc, q⟩ := h
  rcases hc with hc | hc
  · exact op_mul pins s σ H x y v u Q I rx ry ⟨i, j, e1, e2, hc, q⟩
  · exact op_mulW pins s σ H x y v u Q I rx ry ⟨i, j, e1, e2, hc, q⟩
theorem op_uDiv : OpR X (binaryOp .FloorDiv) uDiv := by
  intro pins s σ H x y v u Q I rx ry h
  obtain ⟨i, j, e1, e2, hc, q⟩ := h
  rcases hc with hc | hc
  · exact op_fdiv pins s σ H x y v u Q I rx ry ⟨i, j, e1, e2, hc, q⟩
  · exact op_fdivW pins s σ H x y v u Q I rx ry ⟨i, j, e1, e2, hc, q⟩
theorem op_uEq (hu : X.A.units + 64 < cLine) : OpR X (compareOp .Eq) (uEq X.K) := op_eq.or (op_eqD hu)
theorem op_uNe (hu : X.A.units + 64 < cLine) : OpR X (compareOp .NotEq) (uNe X.K) := op_ne.or (op_neD hu)
theorem op_uIn : OpR X (compareOp .In) (uIn X.K) := op_in_sign.or op_in_seq
theorem op_uNotIn : OpR X (compareOp .NotIn) (uNotIn X.K) := op_notIn_sign.or op_notIn_seq
theorem call_uLen : CallR X (.builtin "len") (uLen X.K) := call_len
def uInt : List V → Hp → VK → Prop := fun xs H Q => ((∃ i, xs = [.int i] ∧ Q (.int i) H) ∨ ∃ k, xs = [.bl k] ∧ Q (.int (if k then 1 else 0)) H) ∨ ∃ a n, xs = [.str a] ∧ PySem.intText? a = some n ∧ a.length ≤ 640 ∧ Q (.int n) H
theorem call_uInt : CallR X (.type "int") uInt := call_int1.or call_int_str
def uSl (K : PySem.W.Frag) : V → Option Int → Option Int → Hp → VK → Prop := fun x lo hi H Q => rSlL K x lo hi H Q ∨ rSlT K x lo hi H Q ∨ rSlS x lo hi H Q
theorem sl_u : SlR X (uSl X.K) := sl_list.or (sl_tup.or sl_str)
def uTru (K : PySem.W.Frag) (t : TE) : TT := fun σ H Q => t σ H fun x H1 => ∃ k, TruV K x H1 k ∧ Q k H1
end

/-! a def of the text, called by its name; a method -/
structure Dfn (P : Program) (w : World) (K : PySem.W.Frag) (mg : Str → Option Value) (base : Heap) (k : Nat) (x : Str) (ps : List Str) (sp : Sp) : Prop where
  ex : ∃ (f : Addr) (fd : FuncData), FnOk P w K mg base CX0 k f fd ps sp ∧ mg x = some (.ref f) ∧ PySem.W.keepIn K (.ref f) = true ∧ Binds K fd ps []
structure Mth (P : Program) (w : World) (K : PySem.W.Frag) (mg : Str → Option Value) (base : Heap) (k : Nat) (C : Addr) (x : Str) (ps : List Str) (sp : Sp) : Prop where
  ex : ∃ (f : Addr) (fd : FuncData), FnOk P w K mg base CX0 k f fd ps sp ∧ Meth K C x f ∧ Binds K fd ps []
  cl : Cls K C
structure Ini (P : Program) (w : World) (K : PySem.W.Frag) (mg : Str → Option Value) (base : Heap) (k : Nat) (x : Str) (C : Addr) (ps : List Str) (sp : Sp) : Prop where
  ex : ∃ (f : Addr) (fd : FuncData), FnOk P w K mg base CX0 k f fd ps sp ∧ Mk K C f ∧ mg x = some (.ref C) ∧ Binds K fd ps []
section
variable {X : Cx} {k : Nat} {x : Str} {ps : List Str} {sp : Sp} {p pos : Pos} {e : Expr} {es : List Expr} {t : TA} {C : Addr}
theorem pe_dfn (D : Dfn X.prog X.w X.K X.mg X.base k x ps sp) (hr : Room k X.A) (hg : Gl X x) (ha : PA X (e :: es) t)
    (hdb : (x == ("__debug__" : Str)) = false := by decide) (he : starEach (e :: es) X.env = (false, eval e X.env) :: starEach es X.env := by rfl) (hpl : (backTo pos (starEach es X.env)).any (·.1) = false := by rfl) :
    PE X (.Call (.Name x p) (e :: es) [] pos) (tCall sp [] E0 t) := by
  obtain ⟨f, fd, F, hm, hk, hb⟩ := D.ex
  exact pe_call F hr hg hm hk hb .nil pass0 ha hdb he hpl
theorem pe_dfn0 (D : Dfn X.prog X.w X.K X.mg X.base k x ps sp) (hr : Room k X.A) (hg : Gl X x)
    (hdb : (x == ("__debug__" : Str)) = false := by decide) :
    PE X (.Call (.Name x p) [] [] pos) (tCall sp [] E0 tNil) := by
  obtain ⟨f, fd, F, hm, hk, hb⟩ := D.ex
  exact pe_call0 F hr hg hm hk hb .nil pass0 hdb
variable {o : Expr} {apos : Pos} {m : Str} {ta : TE}
theorem pe_mth (D : Mth X.prog X.w X.K X.mg X.base k C m ps sp) (hr : Room k X.A) {pl : Sem Bool} (he : PE X o ta) (ha : PA X (e :: es) t)
    (hst : starEach (e :: es) X.env = (false, eval e X.env) :: starEach es X.env := by rfl) (hpl : (backTo pos (starEach es X.env)).any (·.1) = false := by rfl)
    (ht : eval (.Call (.Attribute o m apos) (e :: es) [] pos) X.env = (do
      let ov ← eval o X.env
      standAt apos.atName
      let (f, first) ← holding [ov] (getMethod ov m pl)
      callWith pos f first (backTo pos (starEach (e :: es) X.env)) (backToKw pos (keywordEach [] X.env))) := by rfl) :
    PE X (.Call (.Attribute o m apos) (e :: es) [] pos) (tMeth C m sp [] E0 ta t) := by
  obtain ⟨f, fd, F, hm, hb⟩ := D.ex
  exact pe_meth he D.cl hm F hr hb .nil pass0 ha hst hpl ht
theorem pe_mth0 (D : Mth X.prog X.w X.K X.mg X.base k C m ps sp) (hr : Room k X.A) {pl : Sem Bool} (he : PE X o ta)
    (ht : eval (.Call (.Attribute o m apos) [] [] pos) X.env = (do
      let ov ← eval o X.env
      standAt apos.atName
      let (f, first) ← holding [ov] (getMethod ov m pl)
      callWith pos f first (backTo pos (starEach [] X.env)) (backToKw pos (keywordEach [] X.env))) := by rfl) :
    PE X (.Call (.Attribute o m apos) [] [] pos) (tMeth C m sp [] E0 ta tNil) := by
  obtain ⟨f, fd, F, hm, hb⟩ := D.ex
  exact pe_meth0 he D.cl hm F hr hb .nil pass0 ht
theorem pe_ini (D : Ini X.prog X.w X.K X.mg X.base k x C ps sp) (hr : Room (k + 1) X.A) (hg : Gl X x) (ha : PA X (e :: es) t)
    (hdb : (x == ("__debug__" : Str)) = false := by decide) (he : starEach (e :: es) X.env = (false, eval e X.env) :: starEach es X.env := by rfl) (hpl : (backTo pos (starEach es X.env)).any (·.1) = false := by rfl) :
    PE X (.Call (.Name x p) (e :: es) [] pos) (tMake C sp [] E0 t) := by
  obtain ⟨f, fd, F, M, hm, hb⟩ := D.ex
  exact pe_make M F hr hg hm hb .nil pass0 ha hdb he hpl
/-- a module's constant -/
theorem pe_gi {n : Int} (h : ∃ t, X.mg x = some (.int n t)) (hg : Gl X x := by rfl) (hd : (x == ("__debug__" : Str)) = false := by decide) : PE X (.Name x p) (tC (.int n)) := by
  obtain ⟨t, h⟩ := h
  exact pe_glob (v := .int n) hg h ⟨_, rfl⟩ hd
theorem pe_gs {z : Str} (h : ∃ t, X.mg x = some (.str z t)) (hg : Gl X x := by rfl) (hd : (x == ("__debug__" : Str)) = false := by decide) : PE X (.Name x p) (tC (.str z)) := by
  obtain ⟨t, h⟩ := h
  exact pe_glob (v := .str z) hg h ⟨_, rfl⟩ hd
theorem pe_gr {a : Addr} (h : X.mg x = some (.ref a)) (hg : Gl X x := by rfl) (hd : (x == ("__debug__" : Str)) = false := by decide) : PE X (.Name x p) (tC (.ref a)) := pe_glob (v := .ref a) hg h rfl hd
theorem pt_u (ha : PE X o ta) (he : ∀ whole, isTrue o X.env whole = (do let v ← whole; standAt o.pos; holding [v] (truthy v)) := by intro _; rfl) : PT X o (uTru X.K ta) := pt_truth ha he
end

/-! stepping through a reading -/
section
variable {K : PySem.W.Frag} {σ : L2.St} {H : Hp} {ta tb te tl th : TE} {t u : TT} {x y z v : V} {D : Ends} {tu tw tz : TS} {tr : TA} {Q : VK} {E : XK} {r : R2} {i j : Nat} {g : TG}
theorem i_var (h : σ[i]? = some (some v)) (k : Q v H) : tVar i σ H Q := ⟨v, h, k⟩
theorem i_c (k : Q v H) : tC v σ H Q := k
theorem i_op (k : ta σ H fun x H1 => tb σ H1 fun y H2 => r x y H2 Q) : tOp r ta tb σ H Q := k
theorem i_un {r : V → Hp → VK → Prop} (k : ta σ H fun x H1 => r x H1 Q) : tUn r ta σ H Q := k
theorem i_nil {Q : List V → Hp → Prop} (k : Q [] H) : tNil σ H Q := k
theorem i_cons {Q : List V → Hp → Prop} (k : te σ H fun x H1 => tr σ H1 fun xs H2 => Q (x :: xs) H2) : tCons te tr σ H Q := k
theorem i_tup (k : tr σ H fun xs H1 => xs.length ≤ sizeLine ∧ ∀ p, H1 p = none → Q (.ref p) (upd H1 p (.tup xs))) : tTup tr σ H Q := k
theorem i_lst (k : tr σ H fun xs H1 => xs.length ≤ sizeLine ∧ ∀ p, H1 p = none → Q (.ref p) (upd H1 p (.lst xs))) : tLst tr σ H Q := k
theorem i_cb {r : List V → Hp → VK → Prop} (k : tr σ H fun vs H1 => r vs H1 Q) : tCB r tr σ H Q := k
theorem i_call {sp : Sp} (k : tr σ H fun vs H1 => sp vs H1 Q E) : tCall sp [] E tr σ H Q := by
  unfold tCall
  simp only [List.append_nil]
  exact k
def gMeth (C : Addr) (m : Str) (sp : Sp) (E : XK) (t : TA) (x : V) (σ : L2.St) (H : Hp) (Q : VK) : Prop := ∃ a dx fs, x = .ref a ∧ H a = some (.ins C dx fs) ∧ fs.lookup m = none ∧ t σ H fun vs H2 => sp (x :: vs) H2 Q E
theorem i_meth {C : Addr} {m : Str} {sp : Sp} (k : te σ H fun x H1 => gMeth C m sp E tr x σ H1 Q) : tMeth C m sp [] E te tr σ H Q := by
  unfold tMeth
  simp only [List.append_nil]
  exact k
theorem g_meth {C dx a : Addr} {m : Str} {sp : Sp} {fs : List (Str × V)} (h : H a = some (.ins C dx fs)) (l : fs.lookup m = none) (k : tr σ H fun vs H2 => sp (.ref a :: vs) H2 Q E) : gMeth C m sp E tr (.ref a) σ H Q := ⟨a, dx, fs, rfl, h, l, k⟩
def gFld (K : PySem.W.Frag) (f : Str) (x : V) (H : Hp) (Q : VK) : Prop := ∃ a C dx fs v, x = .ref a ∧ H a = some (.ins C dx fs) ∧ Cls K C ∧ NoAttr K C f ∧ fs.lookup f = some v ∧ Q v H
theorem i_fld {f : Str} (k : te σ H fun x H1 => gFld K f x H1 Q) : tFld K te f σ H Q := k
theorem g_fld {C dx a : Addr} {f : Str} {fs : List (Str × V)} (h : H a = some (.ins C dx fs)) (c : Cls K C) (n : NoAttr K C f) (l : fs.lookup f = some v) (k : Q v H) : gFld K f (.ref a) H Q := ⟨a, C, dx, fs, v, rfl, h, c, n, l, k⟩
theorem i_make {C : Addr} {sp : Sp} (k : tr σ H fun vs H1 => ∀ x dx, H1 x = none → H1 dx = none → dx ≠ x → sp (.ref x :: vs) (upd (upd H1 dx (.own x)) x (.ins C dx [])) (fun v H2 => v = .non ∧ Q (.ref x) H2) E) : tMake C sp [] E tr σ H Q := by
  unfold tMake
  simp only [List.append_nil]
  exact k
theorem i_if (k : t σ H fun c H1 => if c = true then ta σ H1 Q else tb σ H1 Q) : tIf t ta tb σ H Q := k
theorem i_sl {r : V → Option Int → Option Int → Hp → VK → Prop} {tl th : TO} (k : te σ H fun x H1 => tl σ H1 fun l H2 => th σ H2 fun u H3 => r x l u H3 Q) : tSl r te tl th σ H Q := k
theorem i_nopart {Q : Option Int → Hp → Prop} (k : Q none H) : tNoPart σ H Q := k
def gPart (x : V) (H : Hp) (Q : Option Int → Hp → Prop) : Prop := ∃ i, x = .int i ∧ Q (some i) H
theorem i_part {Q : Option Int → Hp → Prop} (k : te σ H fun x H1 => gPart x H1 Q) : tPart te σ H Q := k
theorem g_part {n : Int} {Q : Option Int → Hp → Prop} (k : Q (some n) H) : gPart (.int n) H Q := ⟨n, rfl, k⟩
/- tests -/
def gB (x : V) (H : Hp) (Q : Bool → Hp → Prop) : Prop := ∃ k, x = .bl k ∧ Q k H
theorem i_test {Q : Bool → Hp → Prop} (k : te σ H fun x H1 => gB x H1 Q) : tTest te σ H Q := k
theorem i_tB {Q : Bool → Hp → Prop} (k : te σ H fun x H1 => gB x H1 Q) : tB te σ H Q := k
theorem g_b {b : Bool} {Q : Bool → Hp → Prop} (k : Q b H) : gB (.bl b) H Q := ⟨b, rfl, k⟩
def gTru (K : PySem.W.Frag) (x : V) (H : Hp) (Q : Bool → Hp → Prop) : Prop := ∃ k, TruV K x H k ∧ Q k H
theorem i_tru {Q : Bool → Hp → Prop} (k : te σ H fun x H1 => gTru K x H1 Q) : uTru K te σ H Q := k
theorem g_truB {b : Bool} {Q : Bool → Hp → Prop} (k : Q b H) : gTru K (.bl b) H Q := ⟨b, rfl, k⟩
theorem i_and {Q : Bool → Hp → Prop} (k : t σ H fun c H1 => if c = true then u σ H1 Q else Q false H1) : tAnd t u σ H Q := k
theorem i_or {Q : Bool → Hp → Prop} (k : t σ H fun c H1 => if c = true then Q true H1 else u σ H1 Q) : tOr t u σ H Q := k
theorem i_not {Q : Bool → Hp → Prop} (k : t σ H fun c H1 => Q (!c) H1) : tNot t σ H Q := k
def gAndV (tb : TE) (x : V) (σ : L2.St) (H : Hp) (Q : VK) : Prop := ∃ c, x = .bl c ∧ if c = true then tb σ H Q else Q (.bl false) H
def gOrV (tb : TE) (x : V) (σ : L2.St) (H : Hp) (Q : VK) : Prop := ∃ c, x = .bl c ∧ if c = true then Q (.bl true) H else tb σ H Q
def gNotV (x : V) (H : Hp) (Q : VK) : Prop := ∃ c, x = .bl c ∧ Q (.bl (!c)) H
theorem i_andV (k : ta σ H fun x H1 => gAndV tb x σ H1 Q) : tAndV ta tb σ H Q := k
theorem i_orV (k : ta σ H fun x H1 => gOrV tb x σ H1 Q) : tOrV ta tb σ H Q := k
theorem i_notV (k : ta σ H fun x H1 => gNotV x H1 Q) : tNotV ta σ H Q := k
theorem g_andV {c : Bool} (k : if c = true then tb σ H Q else Q (.bl false) H) : gAndV tb (.bl c) σ H Q := ⟨c, rfl, k⟩
theorem g_orV {c : Bool} (k : if c = true then Q (.bl true) H else tb σ H Q) : gOrV tb (.bl c) σ H Q := ⟨c, rfl, k⟩
theorem g_notV {c : Bool} (k : Q (.bl (!c)) H) : gNotV (.bl c) H Q := ⟨c, rfl, k⟩
/- statements -/
theorem i_next (k : D.nx σ H) : tNext D σ H := k
theorem i_seq {a c d : L2.St → Hp → Prop} {b : VK} (k : tu ⟨tz ⟨a, b, c, d⟩, b, c, d⟩ σ H) : tSeq tu tz ⟨a, b, c, d⟩ σ H := k
theorem i_seqN {a c d : L2.St → Hp → Prop} {b : VK} (k : ∀ N : L2.St → Hp → Prop, (∀ σ' H', tz ⟨a, b, c, d⟩ σ' H' → N σ' H') → tu ⟨N, b, c, d⟩ σ H) : tSeq tu tz ⟨a, b, c, d⟩ σ H := k _ fun _ _ h => h
theorem t_nx {N M : L2.St → Hp → Prop} (h : ∀ σ' H', M σ' H' → N σ' H') (k : M σ H) : N σ H := h _ _ k
theorem i_asg (k : te σ H fun x H1 => g x σ H1 D.nx) : tAsg te g D σ H := k
theorem i_name {Q : L2.St → Hp → Prop} {σ' : L2.St} (e : σ.set i (some v) = σ') (k : Q σ' H) : gName i v σ H Q := by
  subst e
  exact k
theorem i_drop (k : te σ H fun _ H1 => D.nx σ H1) : tDrop te D σ H := k
theorem i_ret (k : te σ H D.rt) : tRet te D σ H := k
theorem i_retN (k : D.rt .non H) : tRetN D σ H := k
theorem i_ifS (k : t σ H fun b H1 => if b = true then tu D σ H1 else tw D σ H1) : tIfS t tu tw D σ H := k
theorem i_aug {ti : TIp} (h : σ[i]? = some (some x)) (k : te σ H fun y H1 => ti x y H1 fun z H2 => D.nx (σ.set i (some z)) H2) : tAug i te ti D σ H := ⟨x, h, k⟩
theorem g_ipI {f : Int → Int → Int} {m n : Int} (k : Q (.int (f m n)) H) : ipI f (.int m) (.int n) H Q := ⟨m, n, rfl, rfl, k⟩
theorem i_augS {to ti : TE} {tget : V → V → Hp → VK → Prop} {tip : TIp} {tset : TSet} (k : to σ H fun o H1 => ti σ H1 fun i H2 => tget o i H2 fun x H3 => te σ H3 fun y H4 => tip x y H4 fun z H5 => tset o i z H5 fun H6 => D.nx σ H6) : tAugS to ti te tget tip tset D σ H := k
def gSfld (K : PySem.W.Frag) (f : Str) (x y : V) (H : Hp) (Q : Hp → Prop) : Prop := ∃ a C dx fs, x = .ref a ∧ H a = some (.ins C dx fs) ∧ Cls K C ∧ NoAttr K C f ∧ fs.length < 1000 ∧ Q (upd H a (.ins C dx (putF f y fs)))
theorem i_sub {to ti : TE} {t : TSet} {Q : L2.St → Hp → Prop} (k : to σ H fun o H1 => ti σ H1 fun i H2 => t o i v H2 fun H3 => Q σ H3) : gSub to ti t v σ H Q := k
theorem p_nx {a c d : L2.St → Hp → Prop} {b : VK} (k : a σ H) : Ends.nx ⟨a, b, c, d⟩ σ H := k
theorem p_bk {a c d : L2.St → Hp → Prop} {b : VK} (k : c σ H) : Ends.bk ⟨a, b, c, d⟩ σ H := k
theorem p_ct {a c d : L2.St → Hp → Prop} {b : VK} (k : d σ H) : Ends.ct ⟨a, b, c, d⟩ σ H := k
theorem p_rt {a c d : L2.St → Hp → Prop} {b : VK} (k : b v H) : Ends.rt ⟨a, b, c, d⟩ v H := k
/- operators -/
theorem g_I0 {g : Int → Int → V} {m n : Int} (k : Q (g m n) H) : rI0 g (.int m) (.int n) H Q := ⟨m, n, rfl, rfl, k⟩
theorem g_I {C : Int → Int → Prop} {g : Int → Int → V} {m n : Int} (c : C m n) (k : Q (g m n) H) : rI C g (.int m) (.int n) H Q := ⟨m, n, rfl, rfl, c, k⟩
theorem g_neg {m : Int} (k : Q (.int (-m)) H) : rU (fun i => .int (-i)) (.int m) H Q := ⟨m, rfl, k⟩
theorem g_addI {m n : Int} (k : Q (.int (m + n)) H) : uAdd K (.int m) (.int n) H Q := .inl ⟨m, n, rfl, rfl, k⟩
theorem g_addS {m n : Str} (c : m.length + n.length ≤ sizeLine) (k : Q (.str (m ++ n)) H) : uAdd K (.str m) (.str n) H Q := .inr (.inl ⟨m, n, rfl, rfl, c, k⟩)
theorem g_addL {a b : Addr} {xs ys : List V} (ha : H a = some (.lst xs)) (hb : H b = some (.lst ys)) (c : xs.length + ys.length ≤ sizeLine) (k : ∀ p, H p = none → Q (.ref p) (upd H p (.lst (xs ++ ys)))) : uAdd K (.ref a) (.ref b) H Q := .inr (.inr (.inl ⟨a, b, xs, ys, rfl, rfl, ha, hb, c, k⟩))
theorem g_mul {m n : Int} (c : CMul m n ∨ CMulW m n) (k : Q (.int (m * n)) H) : uMul (.int m) (.int n) H Q := ⟨m, n, rfl, rfl, c, k⟩
theorem g_div {m n : Int} (c : CDiv m n ∨ CDivW m n) (k : Q (.int (m / n)) H) : uDiv (.int m) (.int n) H Q := ⟨m, n, rfl, rfl, c, k⟩
theorem dec_I {m n : Int} : decide (V.int m = V.int n) = decide (m = n) := by
  by_cases h : m = n
  · subst h; simp
  · rw [decide_eq_false h, decide_eq_false (fun q => h (V.int.inj q))]
theorem dec_S {m n : Str} : decide (V.str m = V.str n) = decide (m = n) := by
  by_cases h : m = n
  · subst h; simp
  · rw [decide_eq_false h, decide_eq_false (fun q => h (V.str.inj q))]
theorem g_eqI {m n : Int} (k : Q (.bl (decide (m = n))) H) : uEq K (.int m) (.int n) H Q := .inl ⟨rfl, by rw [dec_I]; exact k⟩
theorem g_neI {m n : Int} (k : Q (.bl (!decide (m = n))) H) : uNe K (.int m) (.int n) H Q := .inl ⟨rfl, by rw [dec_I]; exact k⟩
theorem g_eqS {m n : Str} (k : Q (.bl (decide (m = n))) H) : uEq K (.str m) (.str n) H Q := .inl ⟨rfl, by rw [dec_S]; exact k⟩
theorem g_neS {m n : Str} (k : Q (.bl (!decide (m = n))) H) : uNe K (.str m) (.str n) H Q := .inl ⟨rfl, by rw [dec_S]; exact k⟩
theorem g_isN (k : Q (.bl (decide (x = .non))) H) : (fun (x y : V) (H : Hp) (Q : VK) => y = .non ∧ Q (.bl (decide (x = .non))) H) x .non H Q := ⟨rfl, k⟩
theorem g_ixL {p : Addr} {xs : List V} {n : Int} (h : SqL K H p xs) (a : atI xs n = some v) (k : Q v H) : rIx K (.ref p) (.int n) H Q := .inl ⟨p, xs, n, v, rfl, rfl, h, a, k⟩
theorem g_ixT {p : Addr} {xs : List V} {n : Int} (h : SqT K H p xs) (a : atI xs n = some v) (k : Q v H) : rIx K (.ref p) (.int n) H Q := .inr (.inl ⟨p, xs, n, v, rfl, rfl, h, a, k⟩)
theorem g_ixS {w : Str} {n : Int} {c : Nat} (h : w.length ≤ sizeLine) (a : atI w.cps.toList n = some c) (k : Q (.str ⟨#[c]⟩) H) : rIx K (.str w) (.int n) H Q := .inr (.inr ⟨w, n, c, rfl, rfl, h, a, k⟩)
theorem g_ixLg {p : Addr} {xs : List V} {n : Int} (h : SqL K H p xs) (a : atI xs n = some v) (k : Q v H) : rIxL K (.ref p) (.int n) H Q := ⟨p, xs, n, v, rfl, rfl, h, a, k⟩
theorem g_setL {p : Addr} {xs ys : List V} {n : Int} {j : Nat} {Q : Hp → Prop} (h : H p = some (.lst xs)) (a : ixN xs.length n = some j) (e : xs.set j v = ys) (k : Q (upd H p (.lst ys))) : rSetL (.ref p) (.int n) v H Q := ⟨p, xs, n, j, rfl, rfl, h, a, by rw [e]; exact k⟩
theorem g_slS {w : Str} {lo hi : Option Int} (h : w.length ≤ sizeLine) (k : Q (.str (cutS w lo hi)) H) : uSl K (.str w) lo hi H Q := .inr (.inr ⟨w, rfl, h, k⟩)
theorem g_slL {p : Addr} {xs : List V} {lo hi : Option Int} (h : SqL K H p xs) (k : ∀ q, H q = none → Q (.ref q) (upd H q (.lst (cutV xs lo hi)))) : uSl K (.ref p) lo hi H Q := .inl ⟨p, xs, rfl, h, k⟩
theorem g_lenL {p : Addr} {xs : List V} (h : SqL K H p xs) (k : Q (.int xs.length) H) : uLen K [.ref p] H Q := ⟨.ref p, xs.length, rfl, .inl ⟨xs, h, rfl⟩, k⟩
theorem g_lenT {p : Addr} {xs : List V} (h : SqT K H p xs) (k : Q (.int xs.length) H) : uLen K [.ref p] H Q := ⟨.ref p, xs.length, rfl, .inr ⟨xs, h, rfl⟩, k⟩
theorem g_lenS {w : Str} (h : w.length ≤ sizeLine) (k : Q (.int w.length) H) : uLen K [.str w] H Q := ⟨.str w, w.length, rfl, ⟨h, rfl⟩, k⟩
theorem g_uInt {m : Int} (k : Q (.int m) H) : uInt [.int m] H Q := .inl (.inl ⟨m, rfl, k⟩)
theorem g_uIntS {a : Str} {n : Int} (h : PySem.intText? a = some n) (c : a.length ≤ 640) (k : Q (.int n) H) : uInt [.str a] H Q := .inr ⟨a, n, rfl, h, c, k⟩
/- branches -/
theorem br {c A B : Prop} [Decidable c] (h1 : c → A) (h2 : ¬ c → B) : if decide c = true then A else B := by
  by_cases h : c
  · rw [if_pos (decide_eq_true h)]; exact h1 h
  · rw [if_neg (by simp [h])]; exact h2 h
theorem brn {c A B : Prop} [Decidable c] (h1 : ¬ c → A) (h2 : c → B) : if (!decide c) = true then A else B := by
  by_cases h : c
  · rw [if_neg (by simp [h])]; exact h2 h
  · rw [if_pos (by simp [h])]; exact h1 h
theorem brB {b : Bool} {A B : Prop} (h1 : b = true → A) (h2 : b = false → B) : if b = true then A else B := by
  cases b
  · rw [if_neg (by simp)]; exact h2 rfl
  · rw [if_pos rfl]; exact h1 rfl
theorem brT {b : Bool} {A B : Prop} (h : b = true) (k : A) : if b = true then A else B := by rw [if_pos h]; exact k
theorem brF {b : Bool} {A B : Prop} (h : b = false) (k : B) : if b = true then A else B := by rw [if_neg (by simp [h])]; exact k
/- a new object; a changed one -/
def Off (a : Addr) (H H' : Hp) : Prop := ∀ b o, b ≠ a → H b = some o → H' b = some o
theorem n_new {o : HO} (c : ∀ p H', H p = none → Same H H' → H' p = some o → Q (.ref p) H') : ∀ p, H p = none → Q (.ref p) (upd H p o) := fun p hp => c p _ hp (fun b u e => by rw [upd_ne (ne_of_none e hp)]; exact e) upd_same
theorem n_size {xs : List V} {A : Prop} (c : xs.length ≤ sizeLine) (k : A) : xs.length ≤ sizeLine ∧ A := ⟨c, k⟩
end
end Eg

set_option Elab.async false
set_option linter.all false
set_option maxRecDepth 100000
set_option maxHeartbeats 4000000
namespace Eg
open PySem PySem.Spec PyProof.Rows L2 Rl SX

/-! loops -/
def gFor (J : It) (g : TG) (tb : TS) (D : Ends) (σ : L2.St) (H : Hp) : Prop := ∃ W : Nat → Nat → L2.St → Hp → Prop, (∃ m, W 0 m σ H) ∧ ∀ i m σ H, W i m σ H →
  (J.stop i H ∧ D.nx σ H) ∨ (J.go i H ∧ ∃ N : L2.St → Hp → Prop, (∀ σ' H', N σ' H' → ∃ m', m' < m ∧ W (i + 1) m' σ' H') ∧ ∀ x H', J.yld i H x H' → g x σ H' fun σ2 H2 => tb { D with nx := N, ct := N, bk := D.nx } σ2 H2)
def gLc (J : It) (g : TG) (tt : TT) (te : TE) (vs : List Nat) (σ : L2.St) (H1 : Hp) (Q : VK) : Prop := ∀ D, H1 D = none → ∃ W : Nat → Nat → Hp → Prop, (∃ m, W 0 m (upd H1 D (.lst []))) ∧ ∀ i m H, W i m H →
  (J.stop i H ∧ Q (.ref D) H) ∨ (J.go i H ∧ ∃ Nx : Hp → Prop, (∀ H', Nx H' → ∃ m', m' < m ∧ W (i + 1) m' H') ∧ ∀ x H', J.yld i H x H' → g x (wipe σ vs) H' fun σ2 H2 => wipe σ2 vs = wipe σ vs ∧ tt σ2 H2 fun b H3 =>
    if b = true then te σ2 H3 fun y H4 => ∃ acc, H4 D = some (.lst acc) ∧ acc.length < sizeLine ∧ Nx (upd H4 D (.lst (acc ++ [y]))) else Nx H3)
section
variable {K : PySem.W.Frag} {σ : L2.St} {H : Hp} {ta tb te tl th : TE} {t u tt : TT} {x y z v : V} {D : Ends} {tu tw tz : TS} {tr : TA} {Q : VK} {E : XK} {r : R2} {i j n : Nat} {g : TG} {wi : TI} {J : It} {vs : List Nat} {R : It → Hp → Prop}
theorem i_for {a b c : L2.St → Hp → Prop} {d : VK} (k : wi σ H fun J H1 => gFor J g tu ⟨a, d, b, c⟩ σ H1) : tFor wi g tu ⟨a, d, b, c⟩ σ H := k
theorem i_lc (k : wi σ H fun J H1 => gLc J g tt te vs σ H1 Q) : tLc wi g tt te vs σ H Q := k
def gIterL (K : PySem.W.Frag) (x : V) (H : Hp) (R : It → Hp → Prop) : Prop := ∃ a, x = .ref a ∧ (∃ xs, SqL K H a xs) ∧ R (Itl K a) H
def gIterT (K : PySem.W.Frag) (x : V) (H : Hp) (R : It → Hp → Prop) : Prop := ∃ a, x = .ref a ∧ (∃ xs, SqT K H a xs) ∧ R (Itt K a) H
def gRng1 (vs : List V) (H : Hp) (R : It → Hp → Prop) : Prop := ∃ j : Int, vs = [.int j] ∧ -(2 ^ 62) ≤ j ∧ j < 2 ^ 62 ∧ R (Itr 0 j.toNat) H
def gRng2 (vs : List V) (H : Hp) (R : It → Hp → Prop) : Prop := ∃ i j : Int, vs = [.int i, .int j] ∧ (-(2 ^ 62) ≤ i ∧ i < 2 ^ 62 ∧ -(2 ^ 62) ≤ j ∧ j < 2 ^ 62) ∧ R (Itr i (j - i).toNat) H
def gEnum (K : PySem.W.Frag) (vs : List V) (H : Hp) (R : It → Hp → Prop) : Prop := ∃ a xs, vs = [.ref a] ∧ SqL K H a xs ∧ R (Ite K a) H
def gEnumS (vs : List V) (H : Hp) (R : It → Hp → Prop) : Prop := ∃ x, vs = [.str x] ∧ R (ItS x) H
def gIterS (x : V) (H : Hp) (R : It → Hp → Prop) : Prop := ∃ z, x = .str z ∧ R (Its z) H
theorem i_iL (k : te σ H fun x H1 => gIterL K x H1 R) : iList K te σ H R := k
theorem i_iT (k : te σ H fun x H1 => gIterT K x H1 R) : iTup K te σ H R := k
theorem i_r1 (k : tr σ H fun vs H1 => gRng1 vs H1 R) : iRng1 tr σ H R := k
theorem i_r2 (k : tr σ H fun vs H1 => gRng2 vs H1 R) : iRng2 tr σ H R := k
theorem i_en (k : tr σ H fun vs H1 => gEnum K vs H1 R) : iEnum K tr σ H R := k
theorem i_eS (k : tr σ H fun vs H1 => gEnumS vs H1 R) : iEnumS tr σ H R := k
theorem i_iS (k : te σ H fun x H1 => gIterS x H1 R) : iStr te σ H R := k
theorem g_iL {a : Addr} {xs : List V} (h : SqL K H a xs) (k : R (Itl K a) H) : gIterL K (.ref a) H R := ⟨a, rfl, ⟨xs, h⟩, k⟩
theorem g_iT {a : Addr} {xs : List V} (h : SqT K H a xs) (k : R (Itt K a) H) : gIterT K (.ref a) H R := ⟨a, rfl, ⟨xs, h⟩, k⟩
theorem g_r1 {m : Int} (c : -(2 ^ 62) ≤ m ∧ m < 2 ^ 62) (k : R (Itr 0 m.toNat) H) : gRng1 [.int m] H R := ⟨m, rfl, c.1, c.2, k⟩
theorem g_r2 {m l : Int} (c : -(2 ^ 62) ≤ l ∧ l < 2 ^ 62 ∧ -(2 ^ 62) ≤ m ∧ m < 2 ^ 62) (k : R (Itr l (m - l).toNat) H) : gRng2 [.int l, .int m] H R := ⟨l, m, rfl, c, k⟩
theorem g_en {a : Addr} {xs : List V} (h : SqL K H a xs) (k : R (Ite K a) H) : gEnum K [.ref a] H R := ⟨a, xs, rfl, h, k⟩
theorem g_eS {w : Str} (k : R (ItS w) H) : gEnumS [.str w] H R := ⟨w, rfl, k⟩
theorem g_iS {w : Str} (k : R (Its w) H) : gIterS (.str w) H R := ⟨w, rfl, k⟩
theorem walk_enumS {w : Str} : Walk (ItS w) w.cps.size (fun _ => True) (YPair (fun i => some (.int (i : Nat))) (fun i => (w.cps[i]?).map fun c => .str ⟨#[c]⟩)) :=
  ⟨fun _ _ hi _ => hi, fun _ _ => Nat.le_refl _, fun i H v H' _ _ y => by
    obtain ⟨T, c, h1, h2, h3, h4⟩ := y
    exact ⟨T, .int (i : Nat), .str ⟨#[c]⟩, h1, h2, h3, rfl, by show Option.map _ (w.cps[i]?) = _; rw [h4]; rfl⟩⟩
/-- a for over anything that walks -/
theorem f_it {G : Hp → Prop} {Y : Nat → Hp → V → Hp → Prop} {a b c : L2.St → Hp → Prop} {d : VK} (w : Walk J n G Y) (Pv : Nat → L2.St → Hp → Prop) (h0 : Pv 0 σ H) (hG : ∀ i σ H, i ≤ n → Pv i σ H → G H)
    (hs : ∀ i x σ H H', i < n → Pv i σ H → Y i H x H' → g x σ H' fun σ2 H2 => tu ⟨Pv (i + 1), d, a, Pv (i + 1)⟩ σ2 H2) (hd : ∀ σ H, Pv n σ H → a σ H) : gFor J g tu ⟨a, d, b, c⟩ σ H := for_it w Pv h0 hG hs hd
/-- a for over range -/
theorem f_rng {lo : Int} {a b c : L2.St → Hp → Prop} {d : VK} (Pv : Nat → L2.St → Hp → Prop) (h0 : Pv 0 σ H)
    (hs : ∀ i σ H, i < n → Pv i σ H → g (.int (lo + i)) σ H fun σ2 H2 => tu ⟨Pv (i + 1), d, a, Pv (i + 1)⟩ σ2 H2) (hd : ∀ σ H, Pv n σ H → a σ H) : gFor (Itr lo n) g tu ⟨a, d, b, c⟩ σ H :=
  f_it walk_range Pv h0 (fun _ _ _ _ _ => trivial) (fun i x σ H H' hi p y => by obtain ⟨e, e2⟩ := y; subst e e2; exact hs i σ _ hi p) hd
/-- a for over a list that stands still -/
theorem f_lst {l : Addr} {xs : List V} {a b c : L2.St → Hp → Prop} {d : VK} (Pv : Nat → L2.St → Hp → Prop) (h0 : Pv 0 σ H) (hl : ∀ i σ H, i ≤ xs.length → Pv i σ H → SqL K H l xs)
    (hs : ∀ i x σ H, xs[i]? = some x → Pv i σ H → g x σ H fun σ2 H2 => tu ⟨Pv (i + 1), d, a, Pv (i + 1)⟩ σ2 H2) (hd : ∀ σ H, Pv xs.length σ H → a σ H) : gFor (Itl K l) g tu ⟨a, d, b, c⟩ σ H :=
  f_it walk_list Pv h0 hl (fun i x σ H H' hi p y => by obtain ⟨e, e2⟩ := y; subst e; exact hs i x σ _ e2 p) hd
theorem f_tup {l : Addr} {xs : List V} {a b c : L2.St → Hp → Prop} {d : VK} (Pv : Nat → L2.St → Hp → Prop) (h0 : Pv 0 σ H) (hl : ∀ i σ H, i ≤ xs.length → Pv i σ H → SqT K H l xs)
    (hs : ∀ i x σ H, xs[i]? = some x → Pv i σ H → g x σ H fun σ2 H2 => tu ⟨Pv (i + 1), d, a, Pv (i + 1)⟩ σ2 H2) (hd : ∀ σ H, Pv xs.length σ H → a σ H) : gFor (Itt K l) g tu ⟨a, d, b, c⟩ σ H :=
  f_it walk_tup Pv h0 hl (fun i x σ H H' hi p y => by obtain ⟨e, e2⟩ := y; subst e; exact hs i x σ _ e2 p) hd
theorem f_str {w : Str} {a b c : L2.St → Hp → Prop} {d : VK} (Pv : Nat → L2.St → Hp → Prop) (h0 : Pv 0 σ H)
    (hs : ∀ i c σ H, w.cps.toList[i]? = some c → Pv i σ H → g (.str (S [c])) σ H fun σ2 H2 => tu ⟨Pv (i + 1), d, a, Pv (i + 1)⟩ σ2 H2) (hd : ∀ σ H, Pv w.cps.toList.length σ H → a σ H) : gFor (Its w) g tu ⟨a, d, b, c⟩ σ H :=
  f_it walk_str Pv h0 (fun _ _ _ _ _ => trivial) (fun i x σ H H' hi p y => by obtain ⟨e, c, e2, e3⟩ := y; subst e e3; exact hs i c σ _ (by simpa using e2) p) hd
theorem f_enumS {w : Str} {a b c : L2.St → Hp → Prop} {d : VK} (Pv : Nat → L2.St → Hp → Prop) (h0 : Pv 0 σ H)
    (hs : ∀ i c σ H T H', w.cps.toList[i]? = some c → Pv i σ H → H T = none → Same H H' → H' T = some (.tup [.int (i : Nat), .str (S [c])]) → g (.ref T) σ H' fun σ2 H2 => tu ⟨Pv (i + 1), d, a, Pv (i + 1)⟩ σ2 H2) (hd : ∀ σ H, Pv w.cps.toList.length σ H → a σ H) : gFor (ItS w) g tu ⟨a, d, b, c⟩ σ H :=
  f_it walk_enumS Pv h0 (fun _ _ _ _ _ => trivial) (fun i x σ H H' hi p y => by
    obtain ⟨T, x1, y1, e1, e2, e3, e4, e5⟩ := y
    subst e1 e3
    cases e4
    replace e5 : Option.map _ (w.cps[i]?) = _ := e5
    cases ec : w.cps[i]? with
    | none => rw [ec] at e5; cases e5
    | some c =>
      rw [ec] at e5
      cases e5
      exact hs i c σ H T _ (by simpa using ec) p e2 (fun b u e => by rw [upd_ne (ne_of_none e e2)]; exact e) upd_same) hd
theorem f_enum {l : Addr} {xs : List V} {a b c : L2.St → Hp → Prop} {d : VK} (Pv : Nat → L2.St → Hp → Prop) (h0 : Pv 0 σ H) (hl : ∀ i σ H, i ≤ xs.length → Pv i σ H → SqL K H l xs)
    (hs : ∀ i x σ H T H', xs[i]? = some x → Pv i σ H → H T = none → Same H H' → H' T = some (.tup [.int (i : Nat), x]) → g (.ref T) σ H' fun σ2 H2 => tu ⟨Pv (i + 1), d, a, Pv (i + 1)⟩ σ2 H2) (hd : ∀ σ H, Pv xs.length σ H → a σ H) : gFor (Ite K l) g tu ⟨a, d, b, c⟩ σ H :=
  f_it walk_enum Pv h0 hl (fun i x σ H H' hi p y => by
    obtain ⟨T, x1, y1, e1, e2, e3, e4, e5⟩ := y
    subst e1 e3
    cases e4
    exact hs i y1 σ H T _ e5 p e2 (fun b u e => by rw [upd_ne (ne_of_none e e2)]; exact e) upd_same) hd
/-- a comprehension over anything that walks; Pv: the new list's address, the turn, what it holds -/
def gItem (Pv : Addr → Nat → List V → Hp → Prop) (D : Addr) (i : Nat) (y : V) (H4 : Hp) : Prop := ∃ acc, H4 D = some (.lst acc) ∧ acc.length < sizeLine ∧ (∃ acc', (upd H4 D (.lst (acc ++ [y]))) D = some (.lst acc') ∧ acc'.length = i + 1 ∧ Pv D (i + 1) acc' (upd H4 D (.lst (acc ++ [y]))))
theorem g_item {Pv : Addr → Nat → List V → Hp → Prop} {D : Addr} {i : Nat} {acc : List V} (h : H D = some (.lst acc)) (l : acc.length = i) (c : i < sizeLine) (k : Pv D (i + 1) (acc ++ [y]) (upd H D (.lst (acc ++ [y])))) : gItem Pv D i y H :=
  ⟨acc, h, by omega, acc ++ [y], upd_same, by simp [l], k⟩
theorem l_it {G : Hp → Prop} {Y : Nat → Hp → V → Hp → Prop} (w : Walk J n G Y) (Pv : Addr → Nat → List V → Hp → Prop) (h0 : ∀ D, H D = none → Pv D 0 [] (upd H D (.lst []))) (hG : ∀ D i acc H', H D = none → i ≤ n → H' D = some (.lst acc) → Pv D i acc H' → G H')
    (hs : ∀ D i x acc H1 H', H D = none → i < n → H1 D = some (.lst acc) → acc.length = i → Pv D i acc H1 → Y i H1 x H' → g x (wipe σ vs) H' fun σ2 H2 => wipe σ2 vs = wipe σ vs ∧ te σ2 H2 (gItem Pv D i))
    (hd : ∀ D acc H', H D = none → H' D = some (.lst acc) → acc.length = n → Pv D n acc H' → Q (.ref D) H') : gLc J g tYes te vs σ H Q := fun D hD =>
  lc_it w (fun i H' => ∃ acc, H' D = some (.lst acc) ∧ acc.length = i ∧ Pv D i acc H') ⟨[], upd_same, rfl, h0 D hD⟩ (fun i H' hi ⟨acc, e, _, p⟩ => hG D i acc H' hD hi e p)
    (fun i x H1 H' hi ⟨acc, e, l, p⟩ y => hs D i x acc H1 H' hD hi e l p y) (fun H' ⟨acc, e, l, p⟩ => hd D acc H' hD e l p)
end
end Eg

set_option Elab.async false
set_option linter.all false
set_option maxRecDepth 100000
set_option maxHeartbeats 4000000
namespace Eg
open PySem PySem.Spec PyProof.Rows L2 Rl SX

theorem Same.put {H H' : Hp} {p : Addr} {o : HO} (e : Same H H') (h : H p = none) : Same H (upd H' p o) := fun b u q => by
  rw [upd_ne (ne_of_none q h)]
  exact e b u q
theorem off_refl (a : Addr) (H : Hp) : Off a H H := fun _ _ _ e => e
theorem Off.upd {a : Addr} {H H' : Hp} {o : HO} (e : Off a H H') : Off a H (upd H' a o) := fun b u hb q => by
  rw [upd_ne hb]
  exact e b u hb q
theorem Off.same {a : Addr} {H H1 H' : Hp} (e : Off a H H1) (s : Same H1 H') : Off a H H' := fun b u hb q => s b u (e b u hb q)
theorem Off.trans {a : Addr} {H H1 H' : Hp} (e : Off a H H1) (s : Off a H1 H') : Off a H H' := fun b u hb q => s b u hb (e b u hb q)
theorem Same.off {a : Addr} {H H1 H' : Hp} (s : Same H H1) (e : Off a H1 H') : Off a H H' := fun b u hb q => e b u hb (s b u q)
theorem off_of {a : Addr} {H H' : Hp} (s : Same H H') : Off a H H' := fun b u _ q => s b u q
/-- a change at what was not there is none -/
theorem Off.new {a : Addr} {H H' : Hp} (e : Off a H H') (h : H a = none) : Same H H' := fun b u q => e b u (ne_of_none q h) q

section
variable {X : Cx}
def uSplit : V → List V → Hp → VK → Prop := fun x xs H Q => ∃ a b, x = .str a ∧ xs = [.str b] ∧ (b.length == 0) = false ∧ a.length + 2 ≤ sizeLine ∧ rNewStrs (Txt.split a b) H Q
theorem mt_uSplit : MtR X "str.split" uSplit := mt_split
def uSplitM : V → List V → Hp → VK → Prop := fun x xs H Q => ∃ (a b : Str) (k : Int), x = .str a ∧ xs = [.str b, .int k] ∧ (b.length == 0) = false ∧ -(2 ^ 63) ≤ k ∧ k < 2 ^ 63 ∧ a.length + 2 ≤ sizeLine ∧ rNewStrs (Txt.splitMax a b k) H Q
theorem mt_uSplitM : MtR X "str.split" uSplitM := mt_splitMax
def uJoin (K : PySem.W.Frag) : V → List V → Hp → VK → Prop := fun x xs H Q => ∃ a p, ∃ ys : List Str, x = .str a ∧ xs = [.ref p] ∧ (SqL K H p (ys.map V.str) ∨ SqT K H p (ys.map V.str)) ∧ (ys.map (·.length)).sum + ys.length * a.length ≤ 16777216 ∧ Q (.str (Txt.join a ys)) H
theorem mt_uJoin : MtR X "str.join" (uJoin X.K) := mt_join
def uCount : V → List V → Hp → VK → Prop := fun x xs H Q => ∃ a b, x = .str a ∧ xs = [.str b] ∧ Q (.int (Txt.count a b)) H
theorem mt_uCount : MtR X "str.count" uCount := mt_count
def uOrd : List V → Hp → VK → Prop := fun xs H Q => ∃ x, xs = [.str x] ∧ x.length = 1 ∧ Q (.int (x.cps.getD 0 0 : Nat)) H
theorem call_uOrd : CallR X (.builtin "ord") uOrd := call_ord
def uAbs : List V → Hp → VK → Prop := fun xs H Q => ∃ i, xs = [.int i] ∧ Q (.int (if i < 0 then -i else i)) H
theorem call_uAbs : CallR X (.builtin "abs") uAbs := call_abs
def uMax2 : List V → Hp → VK → Prop := fun xs H Q => ∃ i j, xs = [.int i, .int j] ∧ Q (.int (if j > i then j else i)) H
theorem call_uMax2 (hc : X.calm = true) : CallR X (.builtin "max") uMax2 := call_max2 hc
def uMin2 : List V → Hp → VK → Prop := fun xs H Q => ∃ i j, xs = [.int i, .int j] ∧ Q (.int (if j < i then j else i)) H
theorem call_uMin2 (hc : X.calm = true) : CallR X (.builtin "min") uMin2 := call_min2 hc
def uStr : List V → Hp → VK → Prop := fun xs H Q => ∃ i : Int, xs = [.int i] ∧ i.natAbs.log2 < 1920 ∧ Q (.str (toString i)) H
theorem call_uStr : CallR X (.type "str") uStr := call_str_int
def uList (K : PySem.W.Frag) : List V → Hp → VK → Prop := fun xs H Q => ∃ p ys, xs = [.ref p] ∧ (SqL K H p ys ∨ SqT K H p ys) ∧ ∀ l, H l = none → Q (.ref l) (upd H l (.lst ys))
theorem call_uList : CallR X (.type "list") (uList X.K) := call_list_of
def uIsN : R2 := fun x y H Q => y = .non ∧ Q (.bl (decide (x = .non))) H
theorem op_uIsN : OpR X (compareOp .Is) uIsN := op_isN
def uNotN : R2 := fun x y H Q => y = .non ∧ Q (.bl (!decide (x = .non))) H
theorem op_uNotN : OpR X (compareOp .IsNot) uNotN := op_notN
end

section
variable {K : PySem.W.Frag} {w : World} {σ : L2.St} {H : Hp} {ta tb te tl th td ty tx : TE} {t u tt : TT} {x y z v : V} {D : Ends} {tu tw tz : TS} {tr : TA} {Q : VK} {E : XK} {r : R2} {i j n : Nat} {g : TG} {vs : List V}
/- methods of built-in types -/
def gBm (K : PySem.W.Frag) (T : String) (r : V → List V → Hp → VK → Prop) (t : TA) (x : V) (σ : L2.St) (H : Hp) (Q : VK) : Prop := tyV K T x H ∧ t σ H fun xs H2 => r x xs H2 Q
theorem i_bm {T : String} {r : V → List V → Hp → VK → Prop} (k : te σ H fun x H1 => gBm K T r tr x σ H1 Q) : tBM K T r te tr σ H Q := k
theorem i_bm0 {T : String} {r : V → List V → Hp → VK → Prop} (k : te σ H fun x H1 => gBm K T r tNil x σ H1 Q) : tBM0 K T r te σ H Q := k
theorem g_bmL {p : Addr} {xs : List V} {r : V → List V → Hp → VK → Prop} (h : SqL K H p xs) (k : tr σ H fun xs H2 => r (.ref p) xs H2 Q) : gBm K "list" r tr (.ref p) σ H Q := ⟨.inl ⟨rfl, xs, h⟩, k⟩
theorem g_bmS {w : Str} {r : V → List V → Hp → VK → Prop} (k : tr σ H fun xs H2 => r (.str w) xs H2 Q) : gBm K "str" r tr (.str w) σ H Q := ⟨rfl, k⟩
theorem g_app {l : Addr} {xs : List V} (h : H l = some (.lst xs)) (c : xs.length < sizeLine) (k : Q .non (upd H l (.lst (xs ++ [y])))) : rAppend (.ref l) [y] H Q := ⟨l, xs, y, rfl, rfl, h, c, k⟩
theorem g_split {a b : Str} (c : (b.length == 0) = false) (d : a.length + 2 ≤ sizeLine) (k : ∀ p H', H p = none → Same H H' → H' p = some (.lst ((Txt.split a b).map V.str)) → Q (.ref p) H') : uSplit (.str a) [.str b] H Q :=
  ⟨a, b, rfl, rfl, c, d, n_new k⟩
theorem g_splitM {a b : Str} {m : Int} (c : (b.length == 0) = false) (e : -(2 ^ 63) ≤ m ∧ m < 2 ^ 63) (d : a.length + 2 ≤ sizeLine) (k : ∀ p H', H p = none → Same H H' → H' p = some (.lst ((Txt.splitMax a b m).map V.str)) → Q (.ref p) H') : uSplitM (.str a) [.str b, .int m] H Q :=
  ⟨a, b, m, rfl, rfl, c, e.1, e.2, d, n_new k⟩
theorem g_join {a : Str} {p : Addr} {ys : List Str} (h : SqL K H p (ys.map V.str)) (c : (ys.map (·.length)).sum + ys.length * a.length ≤ 16777216) (k : Q (.str (Txt.join a ys)) H) : uJoin K (.str a) [.ref p] H Q := ⟨a, p, ys, rfl, rfl, .inl h, c, k⟩
theorem g_count {a b : Str} (k : Q (.int (Txt.count a b)) H) : uCount (.str a) [.str b] H Q := ⟨a, b, rfl, rfl, k⟩
/- built-ins -/
theorem g_ord {c : Nat} (k : Q (.int (c : Int)) H) : uOrd [.str (S [c])] H Q := ⟨S [c], rfl, rfl, k⟩
theorem g_abs {m : Int} (k : Q (.int (if m < 0 then -m else m)) H) : uAbs [.int m] H Q := ⟨m, rfl, k⟩
theorem g_max2 {m l : Int} (k : Q (.int (if l > m then l else m)) H) : uMax2 [.int m, .int l] H Q := ⟨m, l, rfl, k⟩
theorem g_min2 {m l : Int} (k : Q (.int (if l < m then l else m)) H) : uMin2 [.int m, .int l] H Q := ⟨m, l, rfl, k⟩
theorem log2_small {m : Int} (c : m.natAbs < 2 ^ 64) : m.natAbs.log2 < 1920 := Nat.lt_of_lt_of_le (PySem.Flt.log2_lt_of (by decide) c) (by decide)
theorem g_str {m : Nat} (c : m < 2 ^ 64) (k : Q (.str (S (TL.numL m))) H) : uStr [.int (m : Int)] H Q := ⟨(m : Int), rfl, log2_small (by simpa using c), by have e := num_S m; show Q (.str (Str.ofString (toString (m : Int)))) H; rw [e]; exact k⟩
theorem g_list {p : Addr} {xs : List V} (h : SqL K H p xs) (k : ∀ p H', H p = none → Same H H' → H' p = some (.lst xs) → Q (.ref p) H') : uList K [.ref p] H Q := ⟨p, xs, rfl, .inl h, n_new k⟩
theorem g_sum {p : Addr} {ns : List Int} (h : SqL K H p (ns.map V.int)) (k : Q (.int ns.sum) H) : rSum K [.ref p] H Q := ⟨p, ns, rfl, h, k⟩
theorem g_any {p : Addr} {bs : List Bool} (h : SqL K H p (bs.map V.bl)) (k : Q (.bl (bs.any id)) H) : rAny K [.ref p] H Q := ⟨p, bs, rfl, h, k⟩
theorem g_all {p : Addr} {bs : List Bool} (h : SqL K H p (bs.map V.bl)) (k : Q (.bl (bs.all id)) H) : rAll K [.ref p] H Q := ⟨p, bs, rfl, h, k⟩
theorem g_isi {T tn : String} {b : Bool} (h : TyX K H x (.type tn)) (e : kitB tn T = some b) (k : Q (.bl b) H) : rIsi K [x, .ty T] H Q := ⟨x, .ty T, .type tn, .type T, b, rfl, .ty T, h, kit_ty e, k⟩
theorem g_isNN (k : Q (.bl true) H) : uIsN .non .non H Q := ⟨rfl, k⟩
theorem g_isNx (h : x ≠ .non) (k : Q (.bl false) H) : uIsN x .non H Q := ⟨rfl, by rw [decide_eq_false h]; exact k⟩
theorem g_noNN (k : Q (.bl false) H) : uNotN .non .non H Q := ⟨rfl, k⟩
theorem g_noNx (h : x ≠ .non) (k : Q (.bl true) H) : uNotN x .non H Q := ⟨rfl, by rw [decide_eq_false h]; exact k⟩
theorem g_kd {p : Addr} {z : Str} (h : KDct K w p z v) (k : Q v H) : rIxD K w (.ref p) (.str z) H Q := ⟨p, z, v, rfl, rfl, h, k⟩
/- dicts -/
def gDGet2 (ty tx : TE) (x : V) (σ : L2.St) (H : Hp) (Q : VK) : Prop := ∃ a, x = .ref a ∧ IsD H a ∧ ty σ H fun y H2 => tx σ H2 fun z H3 => ∃ o, DGet H3 a y o ∧ Q (o.getD z) H3
def gDG (a : Addr) (y z : V) (H : Hp) (Q : VK) : Prop := ∃ o, DGet H a y o ∧ Q (o.getD z) H
theorem i_dget2 (k : td σ H fun x H1 => gDGet2 ty tx x σ H1 Q) : tDGet2 td ty tx σ H Q := k
theorem g_dget2 {a : Addr} {kvs : List (Key × V)} (h : Rd H a (.dK kvs)) (k : ty σ H fun y H2 => tx σ H2 fun z H3 => gDG a y z H3 Q) : gDGet2 ty tx (.ref a) σ H Q := ⟨a, rfl, .inl ⟨kvs, h⟩, k⟩
theorem g_dg {a : Addr} {s : Str} {kvs : List (Key × V)} (h : Rd H a (.dK kvs)) (k : Q ((valV kvs (.inr s)).getD z) H) : gDG a (.str s) z H Q := ⟨_, .inl ⟨kvs, .inr s, h, rfl, rfl⟩, k⟩
def gDGet (a y : V) (H : Hp) (Q : VK) : Prop := ∃ p v, a = .ref p ∧ DGet H p y (some v) ∧ Q v H
theorem i_dget (k : td σ H fun x H1 => ty σ H1 fun y H2 => gDGet x y H2 Q) : tDGet td ty σ H Q := k
theorem g_dget {a : Addr} {s : Str} {kvs : List (Key × V)} (h : Rd H a (.dK kvs)) (e : valV kvs (.inr s) = some v) (k : Q v H) : gDGet (.ref a) (.str s) H Q := ⟨a, v, rfl, .inl ⟨kvs, .inr s, h, rfl, e.symm⟩, k⟩
def gDPut (a y v : V) (H : Hp) (Q : Hp → Prop) : Prop := ∃ p H', a = .ref p ∧ DPut H p y v H' ∧ Q H'
theorem i_dput {a b c : L2.St → Hp → Prop} {d : VK} (k : tx σ H fun v H1 => td σ H1 fun x H2 => ty σ H2 fun y H3 => gDPut x y v H3 (a σ)) : sDPut td ty tx ⟨a, d, b, c⟩ σ H := k
theorem g_dput {a : Addr} {s : Str} {kvs : List (Key × V)} {Q : Hp → Prop} (h : H a = some (.dK kvs)) (c : kvs.length < sizeLine) (k : Q (upd H a (.dK (putK kvs (.inr s) v)))) : gDPut (.ref a) (.str s) v H Q := ⟨a, _, rfl, .inl ⟨kvs, .inr s, h, rfl, c, rfl⟩, k⟩
theorem i_dnew (k : ∀ p H', H p = none → Same H H' → H' p = some (.dK []) → Q (.ref p) H') : tDNewK σ H Q := n_new k
/- a new tuple, a new list -/
def gNewT (xs : List V) (H : Hp) (Q : VK) : Prop := xs.length ≤ sizeLine ∧ ∀ p, H p = none → Q (.ref p) (upd H p (.tup xs))
def gNewL (xs : List V) (H : Hp) (Q : VK) : Prop := xs.length ≤ sizeLine ∧ ∀ p, H p = none → Q (.ref p) (upd H p (.lst xs))
theorem i_tupN (k : tr σ H fun xs H1 => gNewT xs H1 Q) : tTup tr σ H Q := k
theorem i_lstN (k : tr σ H fun xs H1 => gNewL xs H1 Q) : tLst tr σ H Q := k
theorem g_newT {xs : List V} (c : xs.length ≤ sizeLine) (k : ∀ p H', H p = none → Same H H' → H' p = some (.tup xs) → Q (.ref p) H') : gNewT xs H Q := ⟨c, n_new k⟩
theorem g_newL {xs : List V} (c : xs.length ≤ sizeLine) (k : ∀ p H', H p = none → Same H H' → H' p = some (.lst xs) → Q (.ref p) H') : gNewL xs H Q := ⟨c, n_new k⟩
theorem g_slL' {p : Addr} {xs : List V} {lo hi : Option Int} (h : SqL K H p xs) (k : ∀ q H', H q = none → Same H H' → H' q = some (.lst (cutV xs lo hi)) → Q (.ref q) H') : uSl K (.ref p) lo hi H Q := g_slL h (n_new k)
theorem g_addL' {a b : Addr} {xs ys : List V} (ha : H a = some (.lst xs)) (hb : H b = some (.lst ys)) (c : xs.length + ys.length ≤ sizeLine) (k : ∀ p H', H p = none → Same H H' → H' p = some (.lst (xs ++ ys)) → Q (.ref p) H') : uAdd K (.ref a) (.ref b) H Q := g_addL ha hb c (n_new k)
theorem i_chain {r r' : R2} (k : ta σ H fun x H1 => tb σ H1 fun y H2 => r x y H2 fun z H3 => ∃ k, z = .bl k ∧ (if k = true then te σ H3 fun w' H4 => r' y w' H4 Q else Q (.bl false) H3)) : tChain r r' ta tb te σ H Q := k
/- two ways that meet again -/
theorem jnE {b : Bool} (R : V → Hp → Prop) (hR : ∀ x H', R x H' → Q x H') (h : ∀ Q' : VK, (∀ x H', R x H' → Q' x H') → if b = true then ta σ H Q' else tb σ H Q') : if b = true then ta σ H Q else tb σ H Q := h Q hR
theorem jnA {b : Bool} (R : V → Hp → Prop) (hR : ∀ x H', R x H' → Q x H') (h : ∀ Q' : VK, (∀ x H', R x H' → Q' x H') → if b = true then tb σ H Q' else Q' (.bl false) H) : if b = true then tb σ H Q else Q (.bl false) H := h Q hR
theorem jnO {b : Bool} (R : V → Hp → Prop) (hR : ∀ x H', R x H' → Q x H') (h : ∀ Q' : VK, (∀ x H', R x H' → Q' x H') → if b = true then Q' (.bl true) H else tb σ H Q') : if b = true then Q (.bl true) H else tb σ H Q := h Q hR
theorem jnS {b : Bool} {a c d : L2.St → Hp → Prop} {e : VK} (R : L2.St → Hp → Prop) (hR : ∀ σ' H', R σ' H' → a σ' H') (h : ∀ N : L2.St → Hp → Prop, (∀ σ' H', R σ' H' → N σ' H') → if b = true then tu ⟨N, e, c, d⟩ σ H else tw ⟨N, e, c, d⟩ σ H) : if b = true then tu ⟨a, e, c, d⟩ σ H else tw ⟨a, e, c, d⟩ σ H := h a hR
/-- and, or of two tests of which the second may be asked in any case -/
theorem and_j {c : Bool} {d : Bool} {Q : Bool → Hp → Prop} (h : c = true → ∀ Q' : Bool → Hp → Prop, (∀ H', Same H H' → Q' d H') → u σ H Q') (k : ∀ H', Same H H' → Q (c && d) H') : if c = true then u σ H Q else Q false H := by
  cases c
  · rw [if_neg (by simp)]; exact k H (Same.refl H)
  · rw [if_pos rfl]; exact h rfl Q k
theorem or_j {c : Bool} {d : Bool} {Q : Bool → Hp → Prop} (h : c = false → ∀ Q' : Bool → Hp → Prop, (∀ H', Same H H' → Q' d H') → u σ H Q') (k : ∀ H', Same H H' → Q (c || d) H') : if c = true then Q true H else u σ H Q := by
  cases c
  · rw [if_neg (by simp)]; exact h rfl Q k
  · rw [if_pos rfl]; exact k H (Same.refl H)
theorem g_pow {m n : Int} (c : 0 ≤ n ∧ n ≤ 1000000 ∧ m.natAbs < 2 ^ 64) (k : Q (.int (m ^ n.toNat)) H) : rI CPow (fun i j => .int (i ^ j.toNat)) (.int m) (.int n) H Q := ⟨m, n, rfl, rfl, c, k⟩
/- fields, tuples as targets -/
theorem i_sfld {f : Str} {a b c : L2.St → Hp → Prop} {d : VK} (k : te σ H fun y H1 => ta σ H1 fun x H2 => gSfld K f x y H2 (a σ)) : sFld K ta te f ⟨a, d, b, c⟩ σ H := k
theorem g_sfld {f : Str} {a C dx : Addr} {fs fs' : List (Str × V)} {Q : Hp → Prop} (h : H a = some (.ins C dx fs)) (c : Cls K C) (n : NoAttr K C f) (l : fs.length < 1000) (e : putF f y fs = fs') (k : Q (upd H a (.ins C dx fs'))) : gSfld K f (.ref a) y H Q := ⟨a, C, dx, fs, rfl, h, c, n, l, by rw [e]; exact k⟩
theorem i_gtup {p : Addr} {xs : List V} {tg : TGs} {Q : L2.St → Hp → Prop} (h : SqT K H p xs) (e : xs.length = n) (k : tg xs σ H Q) : gTup K n tg (.ref p) σ H Q := ⟨p, xs, rfl, h, e, k⟩
theorem i_gcons {tg : TG} {tgs : TGs} {Q : L2.St → Hp → Prop} (k : tg v σ H fun σ' H' => tgs vs σ' H' Q) : gCons tg tgs (v :: vs) σ H Q := ⟨v, vs, rfl, k⟩
theorem i_gnil {Q : L2.St → Hp → Prop} (k : Q σ H) : gNil [] σ H Q := ⟨rfl, k⟩
theorem i_par {a b c : L2.St → Hp → Prop} {d : VK} (k : tr σ H fun vs H1 => ∃ v w, vs = [v, w] ∧ a ((σ.set i (some v)).set j (some w)) H1) : tPar i j tr ⟨a, d, b, c⟩ σ H := k
theorem g_par {P : V → V → Prop} (k : P x y) : ∃ v w, [x, y] = [v, w] ∧ P v w := ⟨x, y, rfl, k⟩
/-- a field of an instance, its list of fields literal -/
theorem fld_hd {f : Str} {fs : List (Str × V)} : List.lookup f ((f, v) :: fs) = some v := by simp [List.lookup]
theorem fld_tl {f g : Str} {fs : List (Str × V)} {o : Option V} (h : (f == g) = false) (k : fs.lookup f = o) : List.lookup f ((g, y) :: fs) = o := by rw [List.lookup, h]; exact k
/-- a list made from a list that stands, item by item, nothing else touched -/
def PvP (H : Hp) (f : Nat → V) (D : Addr) (i : Nat) (acc : List V) (H' : Hp) : Prop := Same H H' ∧ acc = (List.range i).map f
theorem g_itemP {H1 H0 : Hp} {f : Nat → V} {D : Addr} (e : Same H0 H1) (h : H1 D = some (.lst ((List.range i).map f))) (hD : H0 D = none) (hi : i < sizeLine) (hy : y = f i) : gItem (PvP H0 f) D i y H1 :=
  g_item h (by simp) hi ⟨Eg.Same.put e hD, by rw [List.range_succ, List.map_append, hy]; rfl⟩
theorem l_lstP {l : Addr} {xs : List V} {vs : List Nat} (f : Nat → V) (hx : SqL K H l xs) (hw : ∀ x, wipe ((wipe σ vs).set j (some x)) vs = wipe σ vs)
    (hs : ∀ D i x H', xs[i]? = some x → H D = none → Same H H' → H' D = some (.lst ((List.range i).map f)) → te ((wipe σ vs).set j (some x)) H' (gItem (PvP H f) D i))
    (k : ∀ p H', H p = none → Same H H' → H' p = some (.lst ((List.range xs.length).map f)) → Q (.ref p) H') : gLc (Itl K l) (gName j) tYes te vs σ H Q :=
  l_it walk_list (PvP H f) (fun D hD => ⟨Eg.Same.put (Same.refl H) hD, rfl⟩) (fun D i acc H' hD _ _ p => p.1.seq hx)
    (fun D i x acc H1 H' hD hi e l p y => by obtain ⟨e1, e2⟩ := y; subst e1; obtain ⟨p1, p2⟩ := p; subst p2; exact ⟨hw x, hs D i x _ e2 hD p1 e⟩) (fun D acc H' hD e _ p => k D H' hD p.1 (by rw [e, p.2]))
theorem l_rngP {lo : Int} {vs : List Nat} (f : Nat → V) (hw : ∀ x, wipe ((wipe σ vs).set j (some x)) vs = wipe σ vs)
    (hs : ∀ D i H', i < n → H D = none → Same H H' → H' D = some (.lst ((List.range i).map f)) → te ((wipe σ vs).set j (some (.int (lo + i)))) H' (gItem (PvP H f) D i))
    (k : ∀ p H', H p = none → Same H H' → H' p = some (.lst ((List.range n).map f)) → Q (.ref p) H') : gLc (Itr lo n) (gName j) tYes te vs σ H Q :=
  l_it walk_range (PvP H f) (fun D hD => ⟨Eg.Same.put (Same.refl H) hD, rfl⟩) (fun D i acc H' hD _ _ p => trivial)
    (fun D i x acc H1 H' hD hi e l p y => by obtain ⟨e1, e2⟩ := y; subst e1 e2; obtain ⟨p1, p2⟩ := p; subst p2; exact ⟨hw _, hs D i _ hi hD p1 e⟩) (fun D acc H' hD e _ p => k D H' hD p.1 (by rw [e, p.2]))
theorem l_strP {z : Str} {vs : List Nat} (f : Nat → V) (hw : ∀ x, wipe ((wipe σ vs).set j (some x)) vs = wipe σ vs)
    (hs : ∀ D i c H', z.cps.toList[i]? = some c → H D = none → Same H H' → H' D = some (.lst ((List.range i).map f)) → te ((wipe σ vs).set j (some (.str (S [c])))) H' (gItem (PvP H f) D i))
    (k : ∀ p H', H p = none → Same H H' → H' p = some (.lst ((List.range z.cps.toList.length).map f)) → Q (.ref p) H') : gLc (Its z) (gName j) tYes te vs σ H Q :=
  l_it walk_str (PvP H f) (fun D hD => ⟨Eg.Same.put (Same.refl H) hD, rfl⟩) (fun D i acc H' hD _ _ p => trivial)
    (fun D i x acc H1 H' hD hi e l p y => by obtain ⟨e1, c, e2, e3⟩ := y; subst e1 e3; obtain ⟨p1, p2⟩ := p; subst p2; exact ⟨hw _, hs D i c _ (by simpa using e2) hD p1 e⟩) (fun D acc H' hD e _ p => k D H' hD p.1 (by rw [e, p.2]; simp))
theorem l_enumP {l : Addr} {xs : List V} {vs : List Nat} {j' : Nat} (f : Nat → V) (hx : SqL K H l xs) (hw : ∀ x y, wipe (((wipe σ vs).set j (some x)).set j' (some y)) vs = wipe σ vs)
    (hs : ∀ D i x H', xs[i]? = some x → H D = none → Same H H' → H' D = some (.lst ((List.range i).map f)) → te (((wipe σ vs).set j (some (.int (i : Nat)))).set j' (some x)) H' (gItem (PvP H f) D i))
    (k : ∀ p H', H p = none → Same H H' → H' p = some (.lst ((List.range xs.length).map f)) → Q (.ref p) H') : gLc (Ite K l) (gTup K 2 (gCons (gName j) (gCons (gName j') gNil))) tYes te vs σ H Q :=
  l_it walk_enum (PvP H f) (fun D hD => ⟨Eg.Same.put (Same.refl H) hD, rfl⟩) (fun D i acc H' hD _ _ p => p.1.seq hx)
    (fun D i x acc H1 H' hD hi e l p y => by
      obtain ⟨T, x1, y1, e1, e2, e3, e4, e5⟩ := y
      subst e1 e3
      cases e4
      obtain ⟨p1, p2⟩ := p
      subst p2
      have hT : Same H1 (upd H1 T (.tup [.int (i : Nat), y1])) := fun b u q => by rw [upd_ne (ne_of_none q e2)]; exact q
      exact ⟨T, _, rfl, .of upd_same, rfl, _, _, rfl, _, _, rfl, rfl, hw _ _, hs D i y1 _ e5 hD (p1.trans hT) (hT _ _ e)⟩) (fun D acc H' hD e _ p => k D H' hD p.1 (by rw [e, p.2]))
end
/-! the same rules, the written part named: within a comprehension -/
section
variable {X : Cx} {K : PySem.W.Frag} {a b e o : Expr} {es : List Expr} {ta tb te to : TE} {t : TA} {pos apos cpos : Pos} {f name : Str} {T id : String} {r : V → List V → Hp → VK → Prop}
theorem op_uAddK (h : X.K = K) : OpR X (binaryOp .Add) (uAdd K) := by subst h; exact op_uAdd
theorem op_uEqK (h : X.K = K) (hu : X.A.units + 64 < cLine) : OpR X (compareOp .Eq) (uEq K) := by subst h; exact op_uEq hu
theorem op_uNeK (h : X.K = K) (hu : X.A.units + 64 < cLine) : OpR X (compareOp .NotEq) (uNe K) := by subst h; exact op_uNe hu
theorem op_uInK (h : X.K = K) : OpR X (compareOp .In) (uIn K) := by subst h; exact op_uIn
theorem op_uNotInK (h : X.K = K) : OpR X (compareOp .NotIn) (uNotIn K) := by subst h; exact op_uNotIn
theorem call_uLenK (h : X.K = K) : CallR X (.builtin "len") (uLen K) := by subst h; exact call_uLen
theorem call_uListK (h : X.K = K) : CallR X (.type "list") (uList K) := by subst h; exact call_uList
theorem cr_sumK (h : X.K = K) (hc : X.calm = true) : CallR X (.builtin "sum") (rSum K) := by subst h; exact cr_sum hc
theorem sl_uK (h : X.K = K) : SlR X (uSl K) := by subst h; exact sl_u
theorem ix_seqK (h : X.K = K) : IxR X (rIx K) := by subst h; exact ix_seq
theorem pe_fldK (h : X.K = K) (he : PE X e ta) (hb : attributeBase e f X.env (eval e X.env) = eval e X.env) : PE X (.Attribute e f pos) (tFld K ta f) := by subst h; exact pe_fld he hb
theorem pe_bmK (h : X.K = K) (pa : PlainAttrs T) (slot : Slot T name id) (hty : typeOf (.builtin id) = pure (.type "method_descriptor")) (hm : MtR X id r) (ho : PE X o to) (ha : PA X (e :: es) t)
    (hst : starEach (e :: es) X.env = (false, eval e X.env) :: starEach es X.env := by rfl) : True := trivial
theorem pt_uK (h : X.K = K) (ha : PE X o ta) (he : ∀ whole, isTrue o X.env whole = (do let v ← whole; standAt o.pos; holding [v] (truthy v)) := by intro _; rfl) : PT X o (uTru K ta) := by subst h; exact pt_u ha he
end
/-- a written text, by its codes -/
theorem pe_s {X : Cx} {x : Str} {j : Nat} {pos : Pos} (l : List Nat) (e : x = S l) : PE X (.Constant (.str x) j pos) (tC (.str (S l))) := by
  subst e
  exact pe_str
theorem at_ofN {α : Type} {xs : List α} {z : Int} {j : Nat} {v : α} (e : z = (j : Int)) (h : xs[j]? = some v) : atI xs z = some v := by
  subst e
  exact atI_nat h
/-! the built-ins' names -/
theorem bt_len : bootBuiltins "len" = some (.builtin "len") := by decide +kernel
theorem bt_abs : bootBuiltins "abs" = some (.builtin "abs") := by decide +kernel
theorem bt_ord : bootBuiltins "ord" = some (.builtin "ord") := by decide +kernel
theorem bt_chr : bootBuiltins "chr" = some (.builtin "chr") := by decide +kernel
theorem bt_isinstance : bootBuiltins "isinstance" = some (.builtin "isinstance") := by decide +kernel
theorem bt_max : bootBuiltins "max" = some (.builtin "max") := by decide +kernel
theorem bt_min : bootBuiltins "min" = some (.builtin "min") := by decide +kernel
theorem bt_sum : bootBuiltins "sum" = some (.builtin "sum") := by decide +kernel
theorem bt_any : bootBuiltins "any" = some (.builtin "any") := by decide +kernel
theorem bt_all : bootBuiltins "all" = some (.builtin "all") := by decide +kernel
theorem bt_sorted : bootBuiltins "sorted" = some (.builtin "sorted") := by decide +kernel
theorem bt_int : bootBuiltins "int" = some (.type "int") := by decide +kernel
theorem bt_str : bootBuiltins "str" = some (.type "str") := by decide +kernel
theorem bt_list : bootBuiltins "list" = some (.type "list") := by decide +kernel
theorem bt_tuple : bootBuiltins "tuple" = some (.type "tuple") := by decide +kernel
theorem bt_bool : bootBuiltins "bool" = some (.type "bool") := by decide +kernel
theorem bt_dict : bootBuiltins "dict" = some (.type "dict") := by decide +kernel
/-! kinds -/
theorem kb_non (T : String) (h : (T == "bool" || T == "int" || T == "str" || T == "list" || T == "tuple") = true) : kitB "NoneType" T = some false := by
  simp only [Bool.or_eq_true, beq_iff_eq] at h
  rcases h with (((h | h) | h) | h) | h <;> subst h <;> decide +kernel
theorem kb_bool (T : String) (h : (T == "str" || T == "list" || T == "tuple") = true) : kitB "bool" T = some false := by
  simp only [Bool.or_eq_true, beq_iff_eq] at h
  rcases h with (h | h) | h <;> subst h <;> decide +kernel
theorem kb_int (T : String) (h : (T == "bool" || T == "str" || T == "list" || T == "tuple") = true) : kitB "int" T = some false := by
  simp only [Bool.or_eq_true, beq_iff_eq] at h
  rcases h with ((h | h) | h) | h <;> subst h <;> decide +kernel
theorem kb_str (T : String) (h : (T == "bool" || T == "int" || T == "list" || T == "tuple") = true) : kitB "str" T = some false := by
  simp only [Bool.or_eq_true, beq_iff_eq] at h
  rcases h with ((h | h) | h) | h <;> subst h <;> decide +kernel
theorem kb_list (T : String) (h : (T == "bool" || T == "int" || T == "str" || T == "tuple") = true) : kitB "list" T = some false := by
  simp only [Bool.or_eq_true, beq_iff_eq] at h
  rcases h with ((h | h) | h) | h <;> subst h <;> decide +kernel
theorem kb_tuple (T : String) (h : (T == "bool" || T == "int" || T == "str" || T == "list") = true) : kitB "tuple" T = some false := by
  simp only [Bool.or_eq_true, beq_iff_eq] at h
  rcases h with ((h | h) | h) | h <;> subst h <;> decide +kernel
theorem kb_bb : kitB "bool" "bool" = some true := by decide +kernel
theorem kb_ii : kitB "int" "int" = some true := by decide +kernel
theorem kb_ss : kitB "str" "str" = some true := by decide +kernel
theorem kb_ll : kitB "list" "list" = some true := by decide +kernel
theorem kb_tt : kitB "tuple" "tuple" = some true := by decide +kernel
end Eg

set_option Elab.async false
set_option linter.all false
set_option maxRecDepth 100000
set_option maxHeartbeats 4000000
/-! all stands but at these places -/
namespace Eg
open PySem PySem.Spec PyProof.Rows L2 Rl
def Nn (b : Addr) (l : List Addr) : Prop := ∀ a ∈ l, b ≠ a
theorem nn_nil {b : Addr} : Nn b [] := fun _ h => nomatch h
theorem nn_cons {a b : Addr} {l : List Addr} (h : b ≠ a) (k : Nn b l) : Nn b (a :: l) := fun c hc => by
  rcases List.mem_cons.mp hc with e | e
  · rw [e]; exact h
  · exact k c e
def Offs (l : List Addr) (H H' : Hp) : Prop := ∀ b u, Nn b l → H b = some u → H' b = some u
theorem Offs.refl (l : List Addr) (H : Hp) : Offs l H H := fun _ _ _ q => q
theorem Offs.same {l : List Addr} {H H1 H2 : Hp} (h : Offs l H H1) (e : Same H1 H2) : Offs l H H2 := fun b u n q => e b u (h b u n q)
theorem Same.offs {l : List Addr} {H H1 : Hp} (e : Same H H1) : Offs l H H1 := fun b u _ q => e b u q
theorem Offs.trans {l : List Addr} {H H1 H2 : Hp} (h : Offs l H H1) (k : Offs l H1 H2) : Offs l H H2 := fun b u n q => k b u n (h b u n q)
theorem Offs.put {l : List Addr} {H H1 : Hp} {a : Addr} {v : HO} (h : Offs l H H1) (m : a ∈ l) : Offs l H (upd H1 a v) := fun b u n q => by rw [upd_ne (n a m)]; exact h b u n q
theorem Offs.putN {l : List Addr} {H H1 : Hp} {a : Addr} {v : HO} (h : Offs l H H1) (m : H a = none) : Offs l H (upd H1 a v) := fun b u n q => by rw [upd_ne (ne_of_none q m)]; exact h b u n q
theorem Offs.off {l : List Addr} {H H1 H2 : Hp} {a : Addr} (h : Offs l H H1) (m : a ∈ l) (k : Off a H1 H2) : Offs l H H2 := fun b u n q => k b u (n a m) (h b u n q)
theorem Offs.offN {l : List Addr} {H H1 H2 : Hp} {a : Addr} (h : Offs l H H1) (m : H a = none) (k : Off a H1 H2) : Offs l H H2 := fun b u n q => k b u (ne_of_none q m) (h b u n q)
/-- the places changed later are known, or were free -/
theorem Offs.more {l l2 : List Addr} {H H1 H2 : Hp} (h : Offs l H H1) (k : Offs l2 H1 H2) (m : ∀ a ∈ l2, a ∈ l ∨ H a = none) : Offs l H H2 := fun b u n q => k b u (fun a ha => (m a ha).elim (n a) fun z => ne_of_none q z) (h b u n q)
theorem Offs.allN {l2 : List Addr} {H H1 H2 : Hp} (h : Same H H1) (k : Offs l2 H1 H2) (m : ∀ a ∈ l2, H a = none) : Same H H2 := fun b u q => k b u (fun a ha => ne_of_none q (m a ha)) (h b u q)
theorem Off.offs {a : Addr} {H H1 : Hp} (h : Off a H H1) : Offs [a] H H1 := fun b u n q => h b u (n a (by simp)) q
theorem Offs.wk {l l2 : List Addr} {H H1 : Hp} (h : Offs l H H1) (m : ∀ a ∈ l, a ∈ l2 ∨ H a = none) : Offs l2 H H1 := Offs.more (Offs.refl _ _) h m
theorem Offs.free {l : List Addr} {H H1 : Hp} {a : Addr} (h : H1 a = none) (k : Offs l H H1) (n : Nn a l) : H a = none := by
  cases e : H a with
  | none => rfl
  | some u => rw [k a u n e] at h; cases h
/-- in a list of places, or free: word by word -/
theorem mf_nil {P : Addr → Prop} : ∀ a ∈ ([] : List Addr), P a := fun _ h => nomatch h
theorem mf_cons {P : Addr → Prop} {b : Addr} {l : List Addr} (h : P b) (k : ∀ a ∈ l, P a) : ∀ a ∈ b :: l, P a := fun c hc => by
  rcases List.mem_cons.mp hc with e | e
  · rw [e]; exact h
  · exact k c e
theorem Offs.tup {l : List Addr} {K : PySem.W.Frag} {H H1 : Hp} {p : Addr} {xs : List V} (h : Offs l H H1) (n : Nn p l) (t : SqT K H p xs) : SqT K H1 p xs := by
  rcases t with (t | ⟨o, t⟩) | t
  · exact .inl (.inl (h _ _ n t))
  · exact .inl (.inr ⟨o, h _ _ n t⟩)
  · exact .inr t
theorem Same.tup {K : PySem.W.Frag} {H H1 : Hp} {p : Addr} {xs : List V} (h : Same H H1) (t : SqT K H p xs) : SqT K H1 p xs := by
  rcases t with (t | ⟨o, t⟩) | t
  · exact .inl (.inl (h _ _ t))
  · exact .inl (.inr ⟨o, h _ _ t⟩)
  · exact .inr t
theorem same_at {H H' : Hp} {b : Addr} {u : HO} (e : Same H H') (h : H b = some u) : H' b = some u := e b u h
theorem off_at {H H' : Hp} {a b : Addr} {u : HO} (e : Off a H H') (n : b ≠ a) (h : H b = some u) : H' b = some u := e b u n h
theorem offs_at {H H' : Hp} {l : List Addr} {b : Addr} {u : HO} (e : Offs l H H') (n : Nn b l) (h : H b = some u) : H' b = some u := e b u n h
theorem upd_none {H : Hp} {a b : Addr} {v : HO} (h : upd H a v b = none) : H b = none := by
  by_cases e : b = a
  · subst e; rw [upd_same] at h; cases h
  · rw [upd_ne e] at h; exact h
theorem off_free {H H1 : Hp} {a b : Addr} {u : HO} (o : Off a H H1) (ha : H1 a = some u) (h : H1 b = none) : H b = none := by
  cases e : H b with
  | none => rfl
  | some v =>
    by_cases n : b = a
    · subst n; rw [ha] at h; cases h
    · rw [o b v n e] at h; cases h
theorem pf_nil {f : Str} {v : V} : putF f v [] = [(f, v)] := rfl
theorem pf_hd {f : Str} {v x : V} {r : List (Str × V)} : putF f v ((f, x) :: r) = (f, v) :: r := by simp [putF]
theorem pf_tl {f g : Str} {v x : V} {r s : List (Str × V)} (h : decide (g = f) = false) (k : putF f v r = s) : putF f v ((g, x) :: r) = (g, x) :: s := by
  have h' := of_decide_eq_false h
  rw [putF, if_neg h', k]
end Eg

set_option Elab.async false
set_option linter.all false
set_option maxRecDepth 100000
set_option maxHeartbeats 4000000
/-! a dict, key by key, held still -/
namespace Eg
open PySem PySem.Spec PyProof.Rows L2 Rl
theorem i_lock {t : TS} {σ : L2.St} {H : Hp} {a b c : L2.St → Hp → Prop} {r : VK} {d : Addr} {u : HO} (h : H d = some u) (m : Mut (some u))
    (k : ∀ od, t ⟨fun σ' H' => H' d = some (.frz od u) ∧ a σ' (upd H' d u), fun v H' => H' d = some (.frz od u) ∧ r v (upd H' d u), fun σ' H' => H' d = some (.frz od u) ∧ b σ' (upd H' d u), fun σ' H' => H' d = some (.frz od u) ∧ c σ' (upd H' d u)⟩ σ (upd H d (.frz od u))) :
    tLock t ⟨a, r, b, c⟩ σ H := ⟨d, u, h, m, k⟩
def gKeys (x : V) (H : Hp) (R : It → Hp → Prop) : Prop := ∃ d o, x = .ref d ∧ ((∃ kvs, H d = some (.frz o (.dK kvs)) ∧ R (Itk d o kvs) H) ∨ ∃ kvs, H d = some (.frz o (.dT kvs)) ∧ R (Itkt d o kvs) H)
theorem i_keys {td : TE} {σ : L2.St} {H : Hp} {R : It → Hp → Prop} (k : td σ H fun x H1 => gKeys x H1 R) : iKeys td σ H R := k
theorem g_keys {H : Hp} {R : It → Hp → Prop} {d : Addr} {o : Obj} {kvs : List (Key × V)} (h : H d = some (.frz o (.dK kvs))) (k : R (Itk d o kvs) H) : gKeys (.ref d) H R := ⟨d, o, rfl, .inl ⟨kvs, h, k⟩⟩
theorem f_keys {g : TG} {tu : TS} {σ : L2.St} {H : Hp} {l : Addr} {o : Obj} {kvs : List (Key × V)} {a b c : L2.St → Hp → Prop} {d : VK} (Pv : Nat → L2.St → Hp → Prop) (h0 : Pv 0 σ H) (hl : ∀ i σ H, i ≤ kvs.length → Pv i σ H → H l = some (.frz o (.dK kvs)))
    (hs : ∀ i k v σ H, kvs[i]? = some (k, v) → Pv i σ H → g (kV k) σ H fun σ2 H2 => tu ⟨Pv (i + 1), d, a, Pv (i + 1)⟩ σ2 H2) (hd : ∀ σ H, Pv kvs.length σ H → a σ H) : gFor (Itk l o kvs) g tu ⟨a, d, b, c⟩ σ H :=
  f_it walk_keys Pv h0 hl (fun i x σ H H' hi p y => by obtain ⟨e, k, v, e2, e3⟩ := y; subst e e3; exact hs i k v σ _ e2 p) hd
def gMake (C : Addr) (sp : Sp) (E : XK) (vs : List V) (H : Hp) (Q : VK) : Prop := ∀ x dx, H x = none → H dx = none → dx ≠ x → sp (.ref x :: vs) (upd (upd H dx (.own x)) x (.ins C dx [])) (fun v H2 => v = .non ∧ Q (.ref x) H2) E
theorem i_mk {C : Addr} {sp : Sp} {E : XK} {tr : TA} {σ : L2.St} {H : Hp} {Q : VK} (k : tr σ H fun vs H1 => gMake C sp E vs H1 Q) : tMake C sp [] E tr σ H Q := i_make k
theorem pg_tupK {X : Cx} {K : PySem.W.Frag} {es : List Expr} {k : Nat} {t : TGs} {n : Nat} {pos : Pos} (h : X.K = K) (hc : X.calm = true) (h2 : PGs X es t)
    (hn : (assignEach es X.env).length = n := by rfl) (hst : (assignEach es X.env).findIdx? (·.1) = none := by rfl) : PG X (.Tuple es k pos) (gTup K n t) := by
  subst h
  exact pg_tup hc h2 hn hst
theorem iteNT {A B : Prop} (k : B) : if (!true) = true then A else B := k
theorem iteNF {A B : Prop} (k : A) : if (!false) = true then A else B := k
theorem upd_swap {H : Hp} {a b : Addr} {x y : HO} (n : a ≠ b) : upd (upd H a x) b y = upd (upd H b y) a x := by
  funext c
  unfold upd
  by_cases h1 : c = a
  · have : ¬ c = b := fun h2 => n (h1.symm.trans h2)
    rw [if_pos h1, if_neg this, if_pos h1]
  · rw [if_neg h1, if_neg h1]
theorem upd_at {H : Hp} {a : Addr} {o : HO} (h : H a = some o) : upd H a o = H := by
  funext c
  unfold upd
  by_cases e : c = a
  · rw [if_pos e, e, h]
  · rw [if_neg e]
/-! the same rules, the ends written out -/
section
variable {σ : L2.St} {H : Hp} {te to ti : TE} {tr : TA} {g : TG} {a b c : L2.St → Hp → Prop} {r : VK} {i : Nat} {x : V}
theorem j_next (k : a σ H) : tNext ⟨a, r, b, c⟩ σ H := k
theorem j_asg (k : te σ H fun x H1 => g x σ H1 a) : tAsg te g ⟨a, r, b, c⟩ σ H := k
theorem j_drop (k : te σ H fun _ H1 => a σ H1) : tDrop te ⟨a, r, b, c⟩ σ H := k
theorem j_ret (k : te σ H r) : tRet te ⟨a, r, b, c⟩ σ H := k
theorem j_retN (k : r .non H) : tRetN ⟨a, r, b, c⟩ σ H := k
theorem j_aug {ti : TIp} (h : σ[i]? = some (some x)) (k : te σ H fun y H1 => ti x y H1 fun z H2 => a (σ.set i (some z)) H2) : tAug i te ti ⟨a, r, b, c⟩ σ H := ⟨x, h, k⟩
theorem j_augS {tget : V → V → Hp → VK → Prop} {tip : TIp} {tset : TSet} (k : to σ H fun o H1 => ti σ H1 fun i H2 => tget o i H2 fun x H3 => te σ H3 fun y H4 => tip x y H4 fun z H5 => tset o i z H5 fun H6 => a σ H6) : tAugS to ti te tget tip tset ⟨a, r, b, c⟩ σ H := k
end
end Eg

set_option Elab.async false
set_option linter.all false
set_option maxRecDepth 100000
set_option maxHeartbeats 4000000
/-! an own exception class whose base is an own one too: the base's name, its first method -/
namespace Eg
open PySem PySem.Spec PyProof.Rows L2 Rl
section
variable {X : Cx} {W : Addr} {x : Str} {mc : Value} {e : Expr} {es : List Expr} {ta : TA} {p1 p2 pos : Pos}
theorem pe_winit {pl : Sem Bool} (hg : Gl X x) (hm : X.mg x = some (.ref W)) (hgw : PySem.W.specialIn X.K (.ref W) "__getattribute__" = some (some (.builtin "type.__getattribute__"))) (hr : PySem.W.readsIn X.K W mc = true) (vV : PySem.W.findCls X.K (.ref W) mc "__init__" = some (.val (.builtin "ValueError.__init__"))) (ha : PA X (e :: es) ta)
    (hdb : (x == ("__debug__" : Str)) = false := by decide)
    (hc : eval (.Call (.Attribute (.Name x p1) "__init__" p2) (e :: es) [] pos) X.env = (do
      let ov ← eval (.Name x p1) X.env
      standAt p2.atName
      let (f, first) ← holding [ov] (getMethod ov "__init__" pl)
      callWith pos f first (backTo pos (starEach (e :: es) X.env)) (backToKw pos (keywordEach [] X.env))) := by rfl)
    (he : starEach (e :: es) X.env = (false, eval e X.env) :: starEach es X.env := by rfl) (hpl : (backTo pos (starEach es X.env)).any (·.1) = false := by rfl) :
    PE X (.Call (.Attribute (.Name x p1) "__init__" p2) (e :: es) [] pos) (tVeI X.K ta) := by
  refine ⟨fun pins s σ H Q I h => ?_⟩
  refine PySem.W.methodCall_KW (ld_glob I hg hm ?_ hdb) hc
  refine PySem.W.method_cls (I.tok _).kIn hgw (PySem.W.cls_value (I.tok _).kIn hr vV (by decide +kernel) ?_)
  show wpAny _ _ (callWith pos (Value.builtin "ValueError.__init__") [] (backTo pos (starEach (e :: es) X.env)) []) _ _ _
  refine PyProof.Rows.callWith_method1 (thn (ha.run pos pins _ σ H _ (I.tok _) h) fun us s1 ⟨vs, H1, I1, r1, a, C, ws, ev, hl, T, ea, q⟩ => ?_) he hpl
  subst ev
  cases r1 with
  | @cons _ u0 _ ur ra rw' =>
    obtain rfl : u0 = Value.ref a := ra
    have hlen : ur.length ≤ sizeLine := by
      rw [← Paired.length rw', sizeLine_eq]
      omega
    exact oinit_ok T I1 ea hlen fun s' J => ⟨.non, H1, J, rfl, q⟩
end
/-! calls that may raise, the way out told slot by slot -/
section
variable {X : Cx} {G : CXT} {k : Nat} {f C : Addr} {fd : FuncData} {ps : List Str} {sp : Sp} {E : L2.St → XK} {x m : Str} {p pos apos : Pos} {o e : Expr} {es : List Expr} {ta : TE} {t : TA}
theorem run_mkS {pins : List (Addr × Obj)} {σ : L2.St} {H : Hp} {s : Shared} {Q : VK} {us : List Value} {vs : List V}
    (M : Mk X.K C f) (F : FnOk X.prog X.w X.K X.mg X.base G k f fd ps sp) (hr : Room (k + 1) X.A) (hb : Binds X.K fd ps [])
    (hx : PassesAt G X σ (E σ)) (I : Inv X pins σ H s) (r : Vals vs us) (h : gMake C sp (E σ) vs H Q) :
    wpAny (model X.prog X.w) X.A (call (.ref C) us) (EP X pins σ Q) X.xe s := by
  have fresh1 := I.hok.fresh (Nat.le_succ s.heap.objs.size)
  have fresh0 := I.hok.fresh (Nat.le_refl s.heap.objs.size)
  have hq := h (s.heap.objs.size + 1) s.heap.objs.size fresh1 fresh0 (Nat.ne_of_lt (Nat.lt_succ_self _))
  have J := Inv.made (C := C) I
  have rr : Vals (V.ref (s.heap.objs.size + 1) :: vs) (Value.ref (s.heap.objs.size + 1) :: us) := .cons rfl r
  have hl : (Value.ref (s.heap.objs.size + 1) :: us).length = ps.length := by
    rw [← rr.length]
    exact F.len _ _ _ _ hq
  have b := hb _ (Value.ref (s.heap.objs.size + 1) :: us) J.kIn (by rw [List.append_nil]; exact hl)
  rw [List.append_nil] at b
  have run := F.run _ X.stack _ _ ⟨Value.ref (s.heap.objs.size + 1) :: us, []⟩ _ _ _ _ (hr.make C us []) (J.env0.make C us []) b rr hq
  refine wpAny_call (make_map (f := f) I.kIn M.makes M.init (beq_iff_eq.mp M.fn) (codeAny_mono run fun z s' w' => ?_))
  rcases z with e | fl
  · exact hx pins _ _ e s' J w'
  · cases fl with
    | ret u =>
      obtain ⟨v, H', I3, rv, ev, q3⟩ := J.after w'
      subst ev
      exact ⟨rv, ⟨V.ref (s.heap.objs.size + 1), H', I3, rfl, q3⟩⟩
    | next => exact w'.elim
    | brk => exact w'.elim
    | cont => exact w'.elim
def tMakeS (C : Addr) (sp : Sp) (E : L2.St → XK) (t : TA) : TE := fun σ H Q => t σ H fun vs H1 => gMake C sp (E σ) vs H1 Q
theorem pe_makeS (M : Mk X.K C f) (F : FnOk X.prog X.w X.K X.mg X.base G k f fd ps sp) (hr : Room (k + 1) X.A) (hg : Gl X x) (hm : X.mg x = some (.ref C)) (hb : Binds X.K fd ps [])
    (hx : ∀ σ, PassesAt G X σ (E σ)) (ha : PA X (e :: es) t) (hdb : (x == ("__debug__" : Str)) = false := by decide)
    (he : starEach (e :: es) X.env = (false, eval e X.env) :: starEach es X.env := by rfl)
    (hpl : (backTo pos (starEach es X.env)).any (·.1) = false := by rfl) : PE X (.Call (.Name x p) (e :: es) [] pos) (tMakeS C sp E t) := by
  constructor
  intro pins s σ H Q I h
  have arg := fun s0 I0 => ha.run pos pins s0 σ H (fun vs H1 => gMake C sp (E σ) vs H1 Q) I0 h
  refine wpAny_Call_Name_kw (ld_glob I hg hm (PySem.W.callWith_K (h₀ := X.base) I.ok.mod.kin M.kp (thn (arg s I) fun us s1 z => ?_) he hpl) hdb)
  obtain ⟨vs, H1, I1, r, q⟩ := z
  exact ⟨I1.kIn, run_mkS M F hr hb (hx σ) I1 r q⟩
end
/-! an own exception class with one field -/
structure Iex (P : Program) (w : World) (K : PySem.W.Frag) (mg : Str → Option Value) (base : Heap) (k : Nat) (x : Str) (C : Addr) (ps : List Str) (sp : Sp) : Prop where
  ex : ∃ (f : Addr) (fd : FuncData), FnOk P w K mg base CX0 k f fd ps sp ∧ PySem.W.findIn K (.ref C) "__init__" = some (some (.ref f)) ∧ PySem.W.typeIn K (.ref f) = some (.type "function") ∧ mg x = some (.ref C) ∧ Binds K fd ps []
  ox : OexC K C
section
variable {X : Cx} {k : Nat} {x : Str} {ps : List Str} {sp : Sp} {p pos pos' : Pos} {e : Expr} {es : List Expr} {t : TA} {C : Addr}
theorem pmk_iex (D : Iex X.prog X.w X.K X.mg X.base k x C ps sp) (hr : Room (k + 1) X.A) (hg : Gl X x) (ha : PA X (e :: es) t) (hdb : (x == ("__debug__" : Str)) = false := by decide)
    (he : starEach (e :: es) X.env = (false, eval e X.env) :: starEach es X.env := by rfl)
    (hpl : (backTo pos (starEach es X.env)).any (·.1) = false := by rfl) : PMk X (.Call (.Name x p) (e :: es) [] pos) (tMkO C sp [] t) := by
  obtain ⟨f, fd, F, iC, tI, hm, hb⟩ := D.ex
  exact pmk_oex D.ox iC tI F hr hb .nil pass0 hg hm ha hdb he hpl
def tRaise (W : WX) (t : L2.St → Hp → XK → Prop) : TS := fun _ σ H => t σ H fun cls d H' => W cls d σ H'
theorem ps_rs {W : WX} {e : Expr} {t : L2.St → Hp → XK → Prop} (tk : Takes X W) (he : PMk X e t) (hc : X.calm = true) : PS X (.Raise (some e) none pos) (tRaise W t) := ps_raise hc tk he
def gRaise (C : Addr) (sp : Sp) (vs : List V) (H : Hp) (Q : XK) : Prop := vs.length ≤ 1000 ∧ ∀ a, H a = none → sp (.ref a :: vs) (upd H a (exo a C none)) (fun v H2 => v = .non ∧ ∃ (d : Addr) (fs : List (Str × V)), H2 a = some (exo a C (some d)) ∧ H2 d = some (exd d fs) ∧ H d = none ∧ Q (.ref C) (some d) (upd (del H2 a) d (.xd fs))) fun _ _ _ => False
theorem i_raise {W : WX} {D : Ends} {σ : L2.St} {H : Hp} (h : t σ H fun vs H1 => gRaise C sp vs H1 fun cls d H' => W cls d σ H') : tRaise W (tMkO C sp [] t) D σ H := by
  unfold tRaise tMkO
  simp only [List.append_nil]
  exact h
def tTryAs (K : PySem.W.Frag) (c : Value) (i : Nat) (tb : WX → TS) (ts : Addr → Value → Option Addr → TS) (Wout : WX) : TS := fun D σ H => tb (wAs K c i ts Wout D) D σ H
theorem i_try {K : PySem.W.Frag} {c : Value} {i : Nat} {tb : WX → TS} {ts : Addr → Value → Option Addr → TS} {Wout : WX} {D : Ends} {σ : L2.St} {H : Hp} (h : tb (wAs K c i ts Wout D) D σ H) : tTryAs K c i tb ts Wout D σ H := h
theorem g_wAs {K : PySem.W.Frag} {cls c : Value} {i : Nat} {ts : Addr → Value → Option Addr → TS} {Wout : WX} {D : Ends} {d : Option Addr} {σ : L2.St} {H : Hp} (e : PySem.W.exmOne K cls c = some true)
    (k : ∀ a, H a = none → ts a cls d { nx := fun σ' H' => D.nx (σ'.set i none) H', rt := D.rt, bk := fun σ' H' => D.bk (σ'.set i none) H', ct := fun σ' H' => D.ct (σ'.set i none) H' } (σ.set i (some (.ref a))) H) : wAs K c i ts Wout D cls d σ H := ⟨true, e, fun _ => k, fun z => Bool.noConfusion z⟩
theorem j_makeS {E : L2.St → XK} {σ : L2.St} {H : Hp} {Q : VK} (h : t σ H fun vs H1 => gMake C sp (E σ) vs H1 Q) : tMakeS C sp E t σ H Q := h
def gXf (a : Addr) (cls : Value) (d : Option Addr) (C : Addr) (f : Str) (x : V) (H1 : Hp) (Q : VK) : Prop := x = .ref a ∧ cls = .ref C ∧ ∃ (dd : Addr) (fs : List (Str × V)) (v : V), d = some dd ∧ H1 dd = some (.xd fs) ∧ fs.lookup f = some v ∧ Q v H1
theorem i_xf {a : Addr} {cls : Value} {d : Option Addr} {f : Str} {te : TE} {σ : L2.St} {H : Hp} {Q : VK} (h : te σ H fun x H1 => gXf a cls d C f x H1 Q) : tXf a cls d C f te σ H Q := h
theorem g_xf {a d : Addr} {f : Str} {v : V} {fs : List (Str × V)} {H : Hp} {Q : VK} (h : H d = some (.xd fs)) (l : fs.lookup f = some v) (k : Q v H) : gXf a (.ref C) (some d) C f (.ref a) H Q := ⟨rfl, rfl, d, fs, v, rfl, h, l, k⟩
end
/-- the promise of an __init__ that calls its base's and sets one field -/
def sp_xi (K : PySem.W.Frag) (C : Addr) (f : Str) : Sp := fun vs H Q _ => ∃ (a : Addr) (v : V), vs = [.ref a, v] ∧ H a = some (exo a C none) ∧ ∀ dx, H dx = none → dx ≠ a → Q .non (upd (upd H dx (exd dx [(f, v)])) a (exo a C (some dx)))
theorem c_raise {K : PySem.W.Frag} {C : Addr} {f : Str} {v : V} {H : Hp} {Q : XK} (k : ∀ d H', H d = none → Same H H' → H' d = some (.xd [(f, v)]) → Q (.ref C) (some d) H') : gRaise C (sp_xi K C f) [v] H Q := by
  refine ⟨by simp, fun a ha => ⟨a, v, rfl, upd_same, fun dx hd hn => ⟨rfl, dx, [(f, v)], upd_same, by rw [upd_ne hn, upd_same], upd_none hd, ?_⟩⟩⟩
  refine k dx _ (upd_none hd) (fun b u q => ?_) upd_same
  have hb := ne_of_none q ha
  have hb2 := ne_of_none q (upd_none hd)
  rw [upd_ne hb2, del_ne hb, upd_ne hb, upd_ne hb2, upd_ne hb]
  exact q
/-! defs that may raise -/
structure DfnX (P : Program) (w : World) (K : PySem.W.Frag) (mg : Str → Option Value) (base : Heap) (k : Nat) (x : Str) (ps : List Str) (sp : Sp) : Prop where
  ex : ∃ (f : Addr) (fd : FuncData), FnOk P w K mg base (L2.CX P w) k f fd ps sp ∧ mg x = some (.ref f) ∧ PySem.W.keepIn K (.ref f) = true ∧ Binds K fd ps []
structure IniX (P : Program) (w : World) (K : PySem.W.Frag) (mg : Str → Option Value) (base : Heap) (k : Nat) (x : Str) (C : Addr) (ps : List Str) (sp : Sp) : Prop where
  ex : ∃ (f : Addr) (fd : FuncData), FnOk P w K mg base (L2.CX P w) k f fd ps sp ∧ Mk K C f ∧ mg x = some (.ref C) ∧ Binds K fd ps []
section
variable {X : Cx} {k : Nat} {x : Str} {ps : List Str} {sp : Sp} {p pos : Pos} {e : Expr} {es : List Expr} {t : TA} {C : Addr} {W : WX}
theorem pe_dfnS (D : DfnX X.prog X.w X.K X.mg X.base k x ps sp) (hr : Room k X.A) (hg : Gl X x) (tk : Takes X W) (ha : PA X (e :: es) t) (hdb : (x == ("__debug__" : Str)) = false := by decide)
    (he : starEach (e :: es) X.env = (false, eval e X.env) :: starEach es X.env := by rfl)
    (hpl : (backTo pos (starEach es X.env)).any (·.1) = false := by rfl) : PE X (.Call (.Name x p) (e :: es) [] pos) (tCallS sp (WE W) t) := by
  obtain ⟨f, fd, F, hm, hk, hb⟩ := D.ex
  exact pe_callS F hr hg hm hk hb (fun σ => passAt tk σ) ha hdb he hpl
theorem pe_iniS (D : IniX X.prog X.w X.K X.mg X.base k x C ps sp) (hr : Room (k + 1) X.A) (hg : Gl X x) (tk : Takes X W) (ha : PA X (e :: es) t) (hdb : (x == ("__debug__" : Str)) = false := by decide)
    (he : starEach (e :: es) X.env = (false, eval e X.env) :: starEach es X.env := by rfl)
    (hpl : (backTo pos (starEach es X.env)).any (·.1) = false := by rfl) : PE X (.Call (.Name x p) (e :: es) [] pos) (tMakeS C sp (WE W) t) := by
  obtain ⟨f, fd, F, M, hm, hb⟩ := D.ex
  exact pe_makeS M F hr hg hm hb (fun σ => passAt tk σ) ha hdb he hpl
end
/-- the base's __init__ called, a field set: what an own exception's __init__ reads -/
def gVe (K : PySem.W.Frag) (vs : List V) (H1 : Hp) (Q : VK) : Prop := ∃ (a C : Addr) (ws : List V), vs = .ref a :: ws ∧ ws.length ≤ 1000 ∧ OexC K C ∧ H1 a = some (exo a C none) ∧ Q .non H1
theorem i_ve {K : PySem.W.Frag} {ta : TA} {σ : L2.St} {H : Hp} {Q : VK} (k : ta σ H fun vs H1 => gVe K vs H1 Q) : tVeI K ta σ H Q := k
theorem g_ve {K : PySem.W.Frag} {a C : Addr} {ws : List V} {H : Hp} {Q : VK} (h : H a = some (exo a C none)) (o : OexC K C) (l : ws.length ≤ 1000) (k : Q .non H) : gVe K (.ref a :: ws) H Q := ⟨a, C, ws, rfl, l, o, h, k⟩
def gOst (K : PySem.W.Frag) (f : Str) (y x : V) (H2 : Hp) (Q : Hp → Prop) : Prop := ∃ a C : Addr, x = .ref a ∧ OexC K C ∧ PySem.W.findIn K (.ref C) f = some none ∧
  ((H2 a = some (exo a C none) ∧ ∀ dx, H2 dx = none → dx ≠ a → Q (upd (upd H2 dx (exd dx [(f, y)])) a (exo a C (some dx)))) ∨
    ∃ (dx : Addr) (fs : List (Str × V)), H2 a = some (exo a C (some dx)) ∧ H2 dx = some (exd dx fs) ∧ fs.length ≤ 900 ∧ Q (upd H2 dx (exd dx ((f, y) :: fs))))
theorem i_ost {K : PySem.W.Frag} {f : Str} {to te : TE} {a b c : L2.St → Hp → Prop} {r : VK} {σ : L2.St} {H : Hp} (k : te σ H fun y H1 => to σ H1 fun x H2 => gOst K f y x H2 (a σ)) : tOst K f to te ⟨a, r, b, c⟩ σ H := k
theorem g_ost {K : PySem.W.Frag} {f : Str} {y : V} {a C : Addr} {H : Hp} {Q : Hp → Prop} (h : H a = some (exo a C none)) (o : OexC K C) (n : PySem.W.findIn K (.ref C) f = some none) (k : ∀ dx, H dx = none → dx ≠ a → Q (upd (upd H dx (exd dx [(f, y)])) a (exo a C (some dx)))) : gOst K f y (.ref a) H Q := ⟨a, C, rfl, o, n, .inl ⟨h, k⟩⟩
theorem i_unl {K : PySem.W.Frag} {n : Nat} {tg : TGs} {p : Addr} {xs : List V} {σ : L2.St} {H : Hp} {Q : L2.St → Hp → Prop} (h : SqL K H p xs) (e : xs.length = n) (k : tg xs σ H Q) : gUnl K n tg (.ref p) σ H Q := ⟨p, xs, rfl, h, e, k⟩
end Eg

set_option Elab.async false
set_option linter.all false
set_option maxRecDepth 100000
set_option maxHeartbeats 4000000
/-! ranges as values, backwards; wide numbers; lists compared -/
namespace Eg
open PySem PySem.Spec PyProof.Rows L2 Rl SX
section
variable {X : Cx}
def uRng : List V → Hp → VK → Prop := fun xs H Q => ∃ n : Int, xs = [.int n] ∧ ∀ p, H p = none → Q (.ref p) (upd H p (.rng 0 n))
theorem call_uRng : CallR X (.type "range") uRng := by
  intro pins s σ H vs us Q I r ⟨n, e, q⟩
  subst e
  cases r with
  | cons r rr =>
    cases rr
    obtain ⟨t, rfl⟩ := r
    refine call_range_1 ⟨.ref s.heap.objs.size, upd H s.heap.objs.size (.rng 0 n), I.laid (t' := s.toks + 1 + 1) (fun _ _ z => Heap.get?_push_of_some _ z) (Nat.le_refl _) ?_, rfl, q _ (I.hok.fresh (Nat.le_refl _))⟩
    exact ⟨s.toks, t, s.toks + 1, Heap.get?_push_size _ rfl⟩
/-- a range object, walked -/
def iRng0 (te : TE) : TI := fun σ H R => te σ H fun x H1 => ∃ (p : Addr) (lo hi : Int), x = .ref p ∧ H1 p = some (.rng lo hi) ∧ (-(2 ^ 62) ≤ lo ∧ lo < 2 ^ 62 ∧ -(2 ^ 62) ≤ hi ∧ hi < 2 ^ 62) ∧ R (Itr lo (hi - lo).toNat) H1
theorem pi_rng {tg e : Expr} {te : TE} (he : PE X e te) : PI X tg e (iRng0 te) := by
  refine ⟨fun pins s σ H R I h => ?_⟩
  refine thn (he.run pins s σ H _ I h) fun v s1 ⟨x, H1, I1, r1, q1⟩ => ?_
  obtain ⟨p, lo, hi, e1, hp, ⟨h1, h2, h3, h4⟩, q⟩ := q1
  subst e1
  cases r1
  obtain ⟨t1, t2, t3, ho⟩ := I1.hok p _ hp
  refine wpAny_pyIter_range (t := t1) (u := t2) (v := t3) ho (small_one h1 h2 h3 h4) ?_
  refine pi_one (tk := s1.toks) I1 { cls := .type "range_iterator", data := .fields #[rawInt lo, rawInt (Builtin.Range.rangeSize lo hi 1), rawInt 1] } (turn_range (P := X.prog) (w := X.w) (K := X.K) (tg := tg) s1.heap.objs.size lo (hi - lo).toNat) ?_ q
  · have a1 : lo + ((0 : Nat) : Int) * 1 = lo := by simp
    have a2 : (((hi - lo).toNat : Nat) : Int) - ((0 : Nat) : Int) = Builtin.Range.rangeSize lo hi 1 := by rw [rangeSize_one]; split <;> omega
    show IsRangeIter _ _ (lo + ((0 : Nat) : Int) * 1) ((((hi - lo).toNat : Nat) : Int) - ((0 : Nat) : Int)) 1
    rw [a1, a2]
    exact Heap.get?_push_size _ rfl
end
section
variable {K : PySem.W.Frag} {σ : L2.St} {H : Hp} {te : TE} {Q : VK} {g : TG} {n : Int} {R : It → Hp → Prop}
theorem g_uRng (k : ∀ p H', H p = none → Same H H' → H' p = some (.rng 0 n) → Q (.ref p) H') : uRng [.int n] H Q := ⟨n, rfl, n_new k⟩
def gRng0 (x : V) (H1 : Hp) (R : It → Hp → Prop) : Prop := ∃ (p : Addr) (lo hi : Int), x = .ref p ∧ H1 p = some (.rng lo hi) ∧ (-(2 ^ 62) ≤ lo ∧ lo < 2 ^ 62 ∧ -(2 ^ 62) ≤ hi ∧ hi < 2 ^ 62) ∧ R (Itr lo (hi - lo).toNat) H1
theorem i_rng0 (k : te σ H fun x H1 => gRng0 x H1 R) : iRng0 te σ H R := k
theorem g_rng0 {p : Addr} {lo hi : Int} (h : H p = some (.rng lo hi)) (c : -(2 ^ 62) ≤ lo ∧ lo < 2 ^ 62 ∧ -(2 ^ 62) ≤ hi ∧ hi < 2 ^ 62) (k : R (Itr lo (hi - lo).toNat) H) : gRng0 (.ref p) H R := ⟨p, lo, hi, rfl, h, c, k⟩
def gRevR (x : V) (H1 : Hp) (R : It → Hp → Prop) : Prop := ∃ n : Int, x = .int n ∧ -(2 ^ 62) ≤ (0 : Int) ∧ (0 : Int) < 2 ^ 62 ∧ -(2 ^ 62) ≤ n ∧ n < 2 ^ 62 ∧ R (Itc (0 + (((n - 0).toNat : Nat) : Int) - 1) (-1) (n - 0).toNat) H1
theorem i_revR (k : te σ H fun x H1 => gRevR x H1 R) : iRevR (tRg1 te) σ H R := k
theorem g_revR {m : Nat} (c : m < 2 ^ 62) (k : R (Itc ((m : Int) - 1) (-1) m) H) : gRevR (.int (m : Int)) H R := by
  refine ⟨m, rfl, by omega, by omega, by omega, by omega, ?_⟩
  rw [Int.sub_zero, Int.toNat_natCast, Int.zero_add]
  exact k
/-- a for over a range from its end -/
theorem f_rngC {m : Nat} {tu : TS} {a b c : L2.St → Hp → Prop} {d : VK} (Pv : Nat → L2.St → Hp → Prop) (h0 : Pv 0 σ H)
    (hs : ∀ i σ H, i < m → Pv i σ H → g (.int ((m - 1 - i : Nat) : Int)) σ H fun σ2 H2 => tu ⟨Pv (i + 1), d, a, Pv (i + 1)⟩ σ2 H2) (hd : ∀ σ H, Pv m σ H → a σ H) : gFor (Itc ((m : Int) - 1) (-1) m) g tu ⟨a, d, b, c⟩ σ H :=
  f_it walk_rangeC Pv h0 (fun _ _ _ _ _ => trivial) (fun i x σ H H' hi p y => by
    obtain ⟨e, e2⟩ := y
    subst e e2
    have z : (m : Int) - 1 + (i : Nat) * (-1) = ((m - 1 - i : Nat) : Int) := by omega
    show g (.int ((m : Int) - 1 + (i : Nat) * (-1))) σ _ _
    rw [z]
    exact hs i σ _ hi p) hd
theorem bt_range : bootBuiltins "range" = some (.type "range") := by decide +kernel
/-- products of wide numbers -/
theorem mul_nb {x y : Int} {m n : Nat} (hx : x.natAbs < 2 ^ m) (hy : y.natAbs < 2 ^ n) (h : m + n < 1000000) : CMulW x y := by
  unfold CMulW
  have z : ∀ {v : Int} {k : Nat}, v.natAbs < 2 ^ k → v.natAbs.log2 ≤ k := fun {v k} hv => by
    by_cases h0 : v.natAbs = 0
    · rw [h0]; simp
    · exact Nat.le_of_lt ((Nat.log2_lt h0).mpr hv)
  have := z hx
  have := z hy
  omega
theorem log_nb {v : Int} {k : Nat} (hv : v.natAbs < 2 ^ k) : v.natAbs.log2 ≤ k := by
  by_cases h0 : v.natAbs = 0
  · rw [h0]; simp
  · exact Nat.le_of_lt ((Nat.log2_lt h0).mpr hv)
theorem g_divW {x y : Int} {k : Nat} (h0 : 0 < y) (hy : y.natAbs < 2 ^ k) (hk : k < 9000) (q : Q (.int (x / y)) H) : uDiv (.int x) (.int y) H Q := ⟨x, y, rfl, rfl, .inr ⟨h0, Nat.lt_of_le_of_lt (log_nb hy) hk⟩, q⟩
theorem g_mulW {x y : Int} (c : CMulW x y) (k : Q (.int (x * y)) H) : uMul (.int x) (.int y) H Q := ⟨x, y, rfl, rfl, .inr c, k⟩
end
end Eg

set_option Elab.async false
set_option linter.all false
set_option maxRecDepth 100000
set_option maxHeartbeats 4000000
/-! two lists walked together -/
namespace Eg
open PySem PySem.Spec PyProof.Rows L2 Rl SX
section
variable {K : PySem.W.Frag} {σ : L2.St} {H : Hp} {tr : TA} {g : TG} {R : It → Hp → Prop} {tu : TS} {a b c : L2.St → Hp → Prop} {d : VK}
def gZip (K : PySem.W.Frag) (vs : List V) (H : Hp) (R : It → Hp → Prop) : Prop := ∃ a b xs ys, vs = [.ref a, .ref b] ∧ SqL K H a xs ∧ SqL K H b ys ∧ R (Itz K a b) H
theorem i_zip (k : tr σ H fun vs H1 => gZip K vs H1 R) : iZip K tr σ H R := k
theorem g_zip {p q : Addr} {xs ys : List V} (h1 : SqL K H p xs) (h2 : SqL K H q ys) (k : R (Itz K p q) H) : gZip K [.ref p, .ref q] H R := ⟨p, q, xs, ys, rfl, h1, h2, k⟩
theorem f_zip {p q : Addr} {xs ys : List V} (hl : xs.length = ys.length) (Pv : Nat → L2.St → Hp → Prop) (h0 : Pv 0 σ H) (hk : ∀ i σ H, i ≤ xs.length → Pv i σ H → SqL K H p xs ∧ SqL K H q ys)
    (hs : ∀ i x y σ H T H', xs[i]? = some x → ys[i]? = some y → Pv i σ H → H T = none → Same H H' → H' T = some (.tup [x, y]) → g (.ref T) σ H' fun σ2 H2 => tu ⟨Pv (i + 1), d, a, Pv (i + 1)⟩ σ2 H2) (hd : ∀ σ H, Pv xs.length σ H → a σ H) : gFor (Itz K p q) g tu ⟨a, d, b, c⟩ σ H :=
  f_it (walk_zip (n := xs.length) (by omega)) Pv h0 hk (fun i v σ H H' hi p y => by
    obtain ⟨T, x, y, e1, e2, e3, e4, e5⟩ := y
    subst e1 e3
    exact hs i x y σ H T _ e4 e5 p e2 (fun b u e => by rw [upd_ne (ne_of_none e e2)]; exact e) upd_same) hd
end
end Eg

set_option Elab.async false
set_option linter.all false
set_option maxRecDepth 100000
set_option maxHeartbeats 4000000
/-! methods that may raise; .get of a dict at the module's top -/
namespace Eg
open PySem PySem.Spec PyProof.Rows L2 Rl SX
structure MthX (P : Program) (w : World) (K : PySem.W.Frag) (mg : Str → Option Value) (base : Heap) (k : Nat) (C : Addr) (x : Str) (ps : List Str) (sp : Sp) : Prop where
  ex : ∃ (f : Addr) (fd : FuncData), FnOk P w K mg base (L2.CX P w) k f fd ps sp ∧ Meth K C x f ∧ Binds K fd ps []
  cl : Cls K C
def tMethS (C : Addr) (m : Str) (sp : Sp) (E : L2.St → XK) (ta : TE) (t : TA) : TE := fun σ H Q => ta σ H fun x H1 => ∃ a dx fs, x = .ref a ∧ H1 a = some (.ins C dx fs) ∧ fs.lookup m = none ∧ t σ H1 fun vs H2 => sp (x :: vs) H2 Q (E σ)
section
variable {X : Cx} {k : Nat} {x : Str} {ps : List Str} {sp : Sp} {p pos apos : Pos} {o e f : Expr} {es : List Expr} {t : TA} {ta td ty tx : TE} {C : Addr} {W : WX} {m : Str}
theorem pe_mthS (D : MthX X.prog X.w X.K X.mg X.base k C m ps sp) (hr : Room k X.A) {pl : Sem Bool} (tk : Takes X W) (ho : PE X o ta) (ha : PA X (e :: es) t)
    (hst : starEach (e :: es) X.env = (false, eval e X.env) :: starEach es X.env := by rfl) (hpl : (backTo pos (starEach es X.env)).any (·.1) = false := by rfl)
    (ht : eval (.Call (.Attribute o m apos) (e :: es) [] pos) X.env = (do
      let ov ← eval o X.env
      standAt apos.atName
      let (f, first) ← holding [ov] (getMethod ov m pl)
      callWith pos f first (backTo pos (starEach (e :: es) X.env)) (backToKw pos (keywordEach [] X.env))) := by rfl) :
    PE X (.Call (.Attribute o m apos) (e :: es) [] pos) (tMethS C m sp (WE W) ta t) := by
  obtain ⟨g, fd, F, hm, hb⟩ := D.ex
  refine ⟨fun pins s σ H Q I h => ?_⟩
  refine PySem.W.methodCall_KW (pl := pl) (thn (ho.run pins s σ H _ I h) fun u s1 ⟨y, H1, I1, ry, a, dx, fs, ey, ea, l, q⟩ => ?_) ht
  subst ey
  cases ry
  refine getmeth_ok I1 ea D.cl hm l ?_
  refine PySem.W.callWith_K (first := [.ref a]) (h₀ := X.base) I.ok.mod.kin hm.kp (thn (ha.run pos pins s1 σ H1 _ I1 q) fun us s2 ⟨vs, H2, I2, r, q2⟩ => ⟨I2.kIn, ?_⟩) hst hpl
  exact run_fnS (us := .ref a :: us) (vs := .ref a :: vs) F hr hb ((fun σ => passAt tk σ) σ) I2 (.cons rfl r) q2
/-- d.get(x, y) of a dict at the module's top that has no such key -/
def tKGet2 (K : PySem.W.Frag) (w : World) (td ty tx : TE) : TE := fun σ H Q => td σ H fun x H1 => ∃ a z, x = .ref a ∧ KMiss K w a z ∧ ty σ H1 fun y H2 => y = .str z ∧ tx σ H2 Q
theorem pe_kget2 (ho : PE X o td) (he : PE X e ty) (hf : PE X f tx) (m : M2 X o "get" apos e f pos) : PE X (.Call (.Attribute o "get" apos) [e, f] [] pos) (tKGet2 X.K X.w td ty tx) := by
  refine ⟨fun pins s σ H Q I h => ?_⟩
  refine wpAny_Call_method m.base m.few m.line PySem.F.plainAttrs_dict PySem.F.slot_dict_get PySem.F.type_dict_get (thn (ho.run pins s σ H _ I h) fun u s1 ⟨x, H1, I1, rx, a, z, ex, miss, q1⟩ => ?_)
  subst ex
  cases rx
  obtain ⟨es, n, hl, hk, low, hn⟩ := miss
  have hm := PySem.W.mapOf_K (prog := X.prog) (w := X.w) I1.kIn hl hk
  refine ⟨hm.typeIs, ?_, ?_⟩
  · intro b e
    cases e
    exact ⟨_, I1.kIn _ _ hl, rfl⟩
  rw [m.trees]
  refine Calls.callWith_builtin rfl (Calls.evalArgs_plain (Calls.spliced_cons (thn (he.run pins s1 σ H1 _ I1 q1) fun iv s2 ⟨y, H2, I2, ry, ey, q2⟩ =>
    Calls.spliced_cons (thn (hf.run pins s2 σ H2 _ I2 q2) fun fv s3 ⟨v, H3, I3, rv, q3⟩ => Calls.spliced_nil ?_))))
  subst ey
  obtain ⟨t, rfl⟩ := ry
  have hm3 := PySem.W.mapOf_K (prog := X.prog) (w := X.w) I3.kIn hl hk
  refine call_meetsIn PySem.F.slot_dict_get hm3.typeIs PySem.F.entry_dict_get (PySem.F.args_dict_get_3 _ _ _) (meets_dict_get_default (strKind X.prog X.w) a (strKind_is X.prog X.w z t) ?_ fv) ?_
  · exact low
  · refine ⟨_, hm3, ?_⟩
    rw [PySem.W.find_K hl hn]
    exact ⟨v, H3, I3.tok _, rv, q3⟩
end
section
variable {K : PySem.W.Frag} {σ : L2.St} {H : Hp} {te ty tx : TE} {tr : TA} {Q : VK} {sp : Sp} {E : L2.St → XK} {C : Addr} {m : Str} {w : World}
theorem i_callS (k : tr σ H fun vs H1 => sp vs H1 Q (E σ)) : tCallS sp E tr σ H Q := k
def gMethS (C : Addr) (m : Str) (sp : Sp) (E : L2.St → XK) (t : TA) (x : V) (σ : L2.St) (H : Hp) (Q : VK) : Prop := ∃ a dx fs, x = .ref a ∧ H a = some (.ins C dx fs) ∧ fs.lookup m = none ∧ t σ H fun vs H2 => sp (x :: vs) H2 Q (E σ)
theorem i_methS (k : te σ H fun x H1 => gMethS C m sp E tr x σ H1 Q) : tMethS C m sp E te tr σ H Q := k
theorem g_methS {dx a : Addr} {fs : List (Str × V)} (h : H a = some (.ins C dx fs)) (l : fs.lookup m = none) (k : tr σ H fun vs H2 => sp (.ref a :: vs) H2 Q (E σ)) : gMethS C m sp E tr (.ref a) σ H Q := ⟨a, dx, fs, rfl, h, l, k⟩
/-- a text so often -/
theorem fold_rep (a : List Nat) : ∀ (m : Nat) (acc : Array Nat), (List.replicate m a.toArray).foldl (· ++ ·) acc = acc ++ ((List.replicate m a).flatten).toArray
  | 0, acc => by simp
  | m + 1, acc => by
    rw [List.replicate_succ, List.foldl_cons, fold_rep a m, List.replicate_succ, List.flatten_cons]
    simp
def uMulS : R2 := fun x y H Q => ∃ (a : List Nat) (n : Nat), x = .str (S a) ∧ y = .int (n : Int) ∧ 2 ≤ n ∧ n ≤ 1000 ∧ a ≠ [] ∧ a.length ≤ 10000 ∧ Q (.str (S ((List.replicate n a).flatten))) H
theorem op_mulS {X : Cx} : OpR X (binaryOp .Mult) uMulS := by
  intro pins s σ H x y v u Q I rx ry ⟨a, n, e1, e2, h2, hn, ha, hl, q⟩
  subst e1 e2
  obtain ⟨t, rfl⟩ := rx
  obtain ⟨t', rfl⟩ := ry
  have hlen : (S a).length = a.length := by simp [S, Str.length]
  have hpos : 0 < a.length := List.length_pos_iff.mpr ha
  have hmul : a.length * n ≤ 10000 * 1000 := Nat.mul_le_mul hl hn
  have z1 : ((n : Int) == 1) = false := by
    rw [beq_eq_false_iff_ne]
    omega
  have z2 : ((S a).length == 0) = false := by
    rw [hlen, beq_eq_false_iff_ne]
    omega
  have hne : ((n : Int) == 1 || (S a).length == 0) = false := by rw [z1, z2]; rfl
  have hN : ((n : Int)).toNat = n := Int.toNat_natCast n
  refine P.mul_str (by rw [decide_eq_false (by omega), decide_eq_false (by omega)]; rfl) (fun _ _ => ?_) (fun _ _ => ?_) ?_
  · rw [hlen]
    refine Int.not_lt.mpr (Int.le_ediv_of_mul_le (by omega) ?_)
    rw [← Int.natCast_mul]
    omega
  · unfold Builtin.Str.tooLong
    rw [hlen, hN, sizeLine_eq]
    exact decide_eq_false (by omega)
  · rw [if_neg (by omega), hne, if_neg (by simp), hN]
    have e : (⟨List.foldl (fun x1 x2 => x1 ++ x2) #[] (List.replicate n (S a).cps)⟩ : Str) = S ((List.replicate n a).flatten) := by
      have h := fold_rep a n #[]
      rw [Array.empty_append] at h
      exact congrArg Str.mk h
    rw [e]
    refine ⟨?_, .str (S ((List.replicate n a).flatten)), H, I.tok _, ⟨_, rfl⟩, q⟩
    have hl2 : (S (List.replicate n a).flatten).length = n * a.length := by simp [S, Str.length]
    rw [hl2, sizeLine_eq, Nat.mul_comm]
    omega
theorem g_mulS {a : List Nat} {n : Nat} {H : Hp} {Q : VK} (h2 : 2 ≤ n) (hn : n ≤ 1000) (ha : a ≠ []) (hl : a.length ≤ 10000) (k : Q (.str (S ((List.replicate n a).flatten))) H) : uMulS (.str (S a)) (.int (n : Int)) H Q := ⟨a, n, rfl, rfl, h2, hn, ha, hl, k⟩
theorem i_kget {K : PySem.W.Frag} {w : World} {td ty tx : TE} {σ : L2.St} {H : Hp} {Q : VK} (k : td σ H fun x H1 => ∃ a z, x = .ref a ∧ KMiss K w a z ∧ ty σ H1 fun y H2 => y = .str z ∧ tx σ H2 Q) : tKGet2 K w td ty tx σ H Q := k
end
end Eg

set_option Elab.async false
set_option linter.all false
set_option maxRecDepth 100000
set_option maxHeartbeats 4000000
/-! quiet defs: bodies that make no exception within; they may be called where one is handled -/
namespace Eg
open PySem PySem.Spec PyProof.Rows L2 Rl SX
/-- nothing is known of what is handled -/
abbrev quiet (X : Cx) : Cx := { X with calm := false }
structure FnQ (P : Program) (w : World) (K : PySem.W.Frag) (mg : Str → Option Value) (base : Heap) (k : Nat) (f : Addr) (fd : FuncData) (ps : List Str) (sp : Sp) : Prop where
  len : ∀ vs H Q E, sp vs H Q E → vs.length = ps.length
  run : ∀ (A : Around) (outer : List Env) (s : Shared) (H : Hp) (args : Args) (us : List Value) (vs : List V) (Q : VK), L2H.RoomH k A → Env0 P w K mg base A outer s H → BindsTo s fd args (ps.zip us) → Vals vs us → sp vs H Q E0 →
    codeAny (model P w) A (.call (.ref f) args) (CR CX0 outer P w H s Q E0) s
theorem FnQ.mono {P : Program} {w : World} {K : PySem.W.Frag} {mg : Str → Option Value} {base : Heap} {j k : Nat} {f : Addr} {fd : FuncData} {ps : List Str} {sp : Sp} (F : FnQ P w K mg base j f fd ps sp) (h : j ≤ k) : FnQ P w K mg base k f fd ps sp :=
  ⟨F.len, fun A outer s H args us vs Q hr => F.run A outer s H args us vs Q (hr.mono h)⟩
theorem inv_around {X : Cx} {A : Around} {xe : Value → Shared → Prop} {pins : List (Addr × Obj)} {σ : L2.St} {H : Hp} {s : Shared} (I : Inv X pins σ H s) (hf : A.frames = some X.stack) : Inv { X with A := A, calm := false, xe := xe } pins σ H s :=
  ⟨⟨I.ok.mod, I.ok.kind, I.ok.glob, I.ok.blt, I.ok.above, I.ok.inj, I.ok.has, I.ok.cab, fun h => Bool.noConfusion (show false = true from h), hf, I.ok.stk, I.ok.exf, I.ok.bs, I.ok.bsz, I.ok.noex, I.ok.exfs, I.ok.funs, I.ok.frf⟩,
    I.os, I.bare, I.base, I.loc, I.cell, I.free, I.freeC, I.pin, I.hok, I.len⟩
section
variable {P : Program} {w : World} {K : PySem.W.Frag} {mg : Str → Option Value} {base : Heap}
theorem env0_mark {A : Around} {outer : List Env} {s : Shared} {H : Hp} (e : Env0 P w K mg base A outer s H) : Env0 P w K mg base { A with handled := none } outer s H := ⟨e.frames, e.mod, e.bs, e.bsz, e.funs, e.frf, e.hok, e.bare⟩
theorem okQ {x qual : Str} {st : Stmt} {f : Addr} {fd : FuncData} {N ps : List Str} {k : Nat} {sp : Sp} (F : Fun K x qual st f fd) (S : FnScope N ps (defScope st)) (len : ∀ vs H Q E, sp vs H Q E → vs.length = ps.length)
    (hbody : ∀ (cdv : Value) (A : Around) (outer : List Env) (s : Shared) (H : Hp) (vs : List V) (Q : VK) (E : XK), L2H.RoomH k (A.deeper (envOfC qual (defScope st) s.heap.objs.size f cdv)) → sp vs H Q E →
      ∃ t, PSs (quiet (cxOf CX0 P w K mg base N qual (defScope st) f cdv A outer s H E).nox) (defBody st) t ∧ t { nx := fun _ H' => Q .non H', rt := Q } (start N vs) H) : FnQ P w K mg base (k + 1) f fd ps sp := by
  obtain ⟨oc, od, kV, doc, pm, an, cdv, ct, osl, rfl, lk, hcd⟩ := F.ex
  refine ⟨len, fun A outer s H args us vs Q hr e0 hb r hsp => ?_⟩
  have hl := len _ _ _ _ hsp
  have KX : K.In s.heap := e0.mod.kin.keeps fun b o e => (e0.bs b o e).1
  have hkind : ∀ y ∈ ps.zip us, (defScope st).names.lookup y.1 = some .local ∨ ((defScope st).names.lookup y.1 = some .cell ∧ ((cellsFrom (s.heap.objs.size + 1) (defScope st).names []).lookup y.1).isSome = true) := fun ⟨n, v⟩ hy => by
    rcases S.par n (List.of_mem_zip hy).1 with q | q
    · exact .inl q
    · exact .inr ⟨q, PySem.W.cellsFrom_some _ _ _ (.inl q)⟩
  refine codeAny_call_function hr.depth (KX _ _ lk) rfl S.co S.gen rfl (PySem.W.codeRec_of KX hcd) (hb _ _ _ _ ?_)
  refine wpAny_newFunctionEnv_cells S.kind hkind fun env he s1 x => ?_
  subst he
  refine ⟨(e0.mod.nolimit.keeps fun b o e => (e0.bs b o e).1).keeps x.toInCall.keep, codeAny_func ?_⟩
  obtain ⟨t, ht, hq⟩ := hbody cdv A outer s H vs Q E0 (hr.deeper _) hsp
  have I0 := inv_start (CX := CX0) (E := E0) (f := f) (cd := cdv) S (show ({ A with handled := none } : Around).handled = none from rfl) (env0_mark e0) hl r x
  have I : Inv (quiet (cxOf CX0 P w K mg base N qual (defScope st) f cdv A outer s H E0)) [] (start N vs) H s1 := inv_around (X := cxOf CX0 P w K mg base N qual (defScope st) f cdv { A with handled := none } outer s H E0) (A := A.deeper (envOfC qual (defScope st) s.heap.objs.size f cdv)) I0 (Around.frames_deeper e0.frames)
  refine wpAny_mono ((PSs.nox (X := quiet (cxOf CX0 P w K mg base N qual (defScope st) f cdv A outer s H E0)) ht).run [] s1 (start N vs) H _ I hq) (fun fl s' hs => ?_) fun e s' hs => hs
  cases fl with
  | ret u =>
    obtain ⟨v, σ', H', J, rv, q⟩ := hs
    exact ⟨v, H', J.os, J.bare, J.base, J.hok, rv, q⟩
  | next =>
    obtain ⟨σ', H', J, q⟩ := hs
    exact ⟨.non, H', J.os, J.bare, J.base, J.hok, rfl, q⟩
  | brk => exact hs.elim fun _ h => h.elim fun _ h => h.2.elim
  | cont => exact hs.elim fun _ h => h.elim fun _ h => h.2.elim
end
section
variable {X : Cx} {k : Nat} {f C : Addr} {fd : FuncData} {ps : List Str} {sp : Sp} {x m : Str} {p pos apos : Pos} {o e : Expr} {es : List Expr} {ta : TE} {t : TA}
theorem run_fnQ {pins : List (Addr × Obj)} {σ : L2.St} {H : Hp} {s : Shared} {Q : VK} {us : List Value} {vs : List V} (F : FnQ X.prog X.w X.K X.mg X.base k f fd ps sp) (hr : L2H.RoomH k X.A) (hb : Binds X.K fd ps [])
    (I : Inv X pins σ H s) (r : Vals vs us) (h : sp vs H Q E0) : wpAny (model X.prog X.w) X.A (call (.ref f) us) (EP X pins σ Q) X.xe s := by
  have hl : us.length = ps.length := by rw [← r.length]; exact F.len _ _ _ _ h
  have b := hb s us I.kIn (by rw [List.append_nil]; exact hl)
  rw [List.append_nil] at b
  refine wpAny_call (codeAny_mono (F.run X.A X.stack s H ⟨us, []⟩ us vs Q hr I.env0 b r h) fun r s' hq => ?_)
  cases r with
  | error e => exact False.elim hq
  | ok fl =>
    cases fl with
    | ret u => exact I.after hq
    | next => exact False.elim hq
    | brk => exact False.elim hq
    | cont => exact False.elim hq
structure MthQ (P : Program) (w : World) (K : PySem.W.Frag) (mg : Str → Option Value) (base : Heap) (k : Nat) (C : Addr) (x : Str) (ps : List Str) (sp : Sp) : Prop where
  ex : ∃ (f : Addr) (fd : FuncData), FnQ P w K mg base k f fd ps sp ∧ Meth K C x f ∧ Binds K fd ps []
  cl : Cls K C
structure DfnQ (P : Program) (w : World) (K : PySem.W.Frag) (mg : Str → Option Value) (base : Heap) (k : Nat) (x : Str) (ps : List Str) (sp : Sp) : Prop where
  ex : ∃ (f : Addr) (fd : FuncData), FnQ P w K mg base k f fd ps sp ∧ mg x = some (.ref f) ∧ PySem.W.keepIn K (.ref f) = true ∧ Binds K fd ps []
theorem pe_dfnQ (D : DfnQ X.prog X.w X.K X.mg X.base k x ps sp) (hr : L2H.RoomH k X.A) (hg : Gl X x) (ha : PA X (e :: es) t)
    (hdb : (x == ("__debug__" : Str)) = false := by decide) (he : starEach (e :: es) X.env = (false, eval e X.env) :: starEach es X.env := by rfl) (hpl : (backTo pos (starEach es X.env)).any (·.1) = false := by rfl) :
    PE X (.Call (.Name x p) (e :: es) [] pos) (tCall sp [] E0 t) := by
  obtain ⟨f, fd, F, hm, hk, hb⟩ := D.ex
  refine ⟨fun pins s σ H Q I h => ?_⟩
  refine wpAny_Call_Name_kw (ld_glob I hg hm ?_ hdb)
  refine PySem.W.callWith_K (h₀ := X.base) I.ok.mod.kin hk (thn (ha.run pos pins s σ H _ I h) fun us s1 ⟨vs, H1, I1, r, q⟩ => ⟨I1.kIn, ?_⟩) he hpl
  simp only [List.append_nil] at q
  exact run_fnQ F hr hb I1 r q
theorem pe_mthQ (D : MthQ X.prog X.w X.K X.mg X.base k C m ps sp) (hr : L2H.RoomH k X.A) {pl : Sem Bool} (ho : PE X o ta) (ha : PA X (e :: es) t)
    (hst : starEach (e :: es) X.env = (false, eval e X.env) :: starEach es X.env := by rfl) (hpl : (backTo pos (starEach es X.env)).any (·.1) = false := by rfl)
    (ht : eval (.Call (.Attribute o m apos) (e :: es) [] pos) X.env = (do
      let ov ← eval o X.env
      standAt apos.atName
      let (f, first) ← holding [ov] (getMethod ov m pl)
      callWith pos f first (backTo pos (starEach (e :: es) X.env)) (backToKw pos (keywordEach [] X.env))) := by rfl) :
    PE X (.Call (.Attribute o m apos) (e :: es) [] pos) (tMeth C m sp [] E0 ta t) := by
  obtain ⟨g, fd, F, hm, hb⟩ := D.ex
  refine ⟨fun pins s σ H Q I h => ?_⟩
  refine PySem.W.methodCall_KW (pl := pl) (thn (ho.run pins s σ H _ I h) fun u s1 ⟨y, H1, I1, ry, a, dx, fs, ey, ea, l, q⟩ => ?_) ht
  subst ey
  cases ry
  refine getmeth_ok I1 ea D.cl hm l ?_
  refine PySem.W.callWith_K (first := [.ref a]) (h₀ := X.base) I.ok.mod.kin hm.kp (thn (ha.run pos pins s1 σ H1 _ I1 q) fun us s2 ⟨vs, H2, I2, r, q2⟩ => ⟨I2.kIn, ?_⟩) hst hpl
  simp only [List.append_nil] at q2
  exact run_fnQ (us := .ref a :: us) (vs := .ref a :: vs) F hr hb I2 (.cons rfl r) q2
theorem pe_mthQ0 (D : MthQ X.prog X.w X.K X.mg X.base k C m ps sp) (hr : L2H.RoomH k X.A) {pl : Sem Bool} (ho : PE X o ta)
    (ht : eval (.Call (.Attribute o m apos) [] [] pos) X.env = (do
      let ov ← eval o X.env
      standAt apos.atName
      let (f, first) ← holding [ov] (getMethod ov m pl)
      callWith pos f first (backTo pos (starEach [] X.env)) (backToKw pos (keywordEach [] X.env))) := by rfl) :
    PE X (.Call (.Attribute o m apos) [] [] pos) (tMeth C m sp [] E0 ta tNil) := by
  obtain ⟨g, fd, F, hm, hb⟩ := D.ex
  refine ⟨fun pins s σ H Q I h => ?_⟩
  refine PySem.W.methodCall_KW (pl := pl) (thn (ho.run pins s σ H _ I h) fun u s1 ⟨y, H1, I1, ry, a, dx, fs, ey, ea, l, q⟩ => ?_) ht
  subst ey
  cases ry
  refine getmeth_ok I1 ea D.cl hm l ?_
  exact PySem.W.callWith_K0 (first := [.ref a]) I1.kIn hm.kp (run_fnQ (us := [.ref a]) (vs := [.ref a]) F hr hb I1 (.cons rfl .nil) q)
end
end Eg
theorem L2H.RoomH.units {k : Nat} {A : PySem.Around} (r : L2H.RoomH k A) : A.units + 64 < PySem.cLine := by have := r.un; omega
theorem hu_ofH {A : PySem.Around} {k : Nat} (hr : L2H.RoomH k A) : A.units + 1 < PySem.cLine := by have := hr.un; omega

set_option Elab.async false
set_option linter.all false
set_option maxRecDepth 100000
set_option maxHeartbeats 4000000
/-! a lambda that is handed from def to def; an exception that is handed to a def -/
namespace Eg
open PySem PySem.Spec PyProof.Rows L2 Rl SX
/-! what stands below a call's frames stays -/
theorem un_less {fs fs' : List Addr} {H H' : Hp} {h h' : Heap} (u : Un fs' [] H H' h h') (m : ∀ b ∈ fs, b ∈ fs') (n : ∀ b ∈ fs', b ∈ fs ∨ h.get? b = none) : Un fs [] H H' h h' :=
  ⟨fun b o q e hb hx => u.keep b o q e (fun z => (n b z).elim hb fun y => by rw [y] at q; cases q) hx, fun b o q e hb hx => u.slot b o q e (m b hb) hx, u.free, u.there, u.tups, u.frzs, u.tbls⟩
/-- what the lambda at f does, called from any state that came out of (h0, H0) with the frames fs kept -/
structure LamV (P : Program) (w : World) (K : PySem.W.Frag) (mg : Str → Option Value) (base : Heap) (k : Nat) (fs : List Addr) (f : Addr) (H0 : Hp) (h0 : Heap) (tl : XK → Hp → VK → Prop) : Prop where
  obj : ∃ (q : Str) (params : Arguments) (body : Expr) (scope : Scope) (cl : List (Str × Addr)) (pm ctv : Value) (c' : Addr), h0.get? f = some (PySem.W.kla_obj "<lambda>" q params body scope cl pm c' ctv)
  non : H0 f = none
  nfr : f ∉ fs
  run : ∀ (A : Around) (outer : List Env) (s : Shared) (HZ : Hp) (Q : VK) (E : XK), Room k A → Env0 P w K mg base A outer s HZ → Un fs [] H0 HZ h0 s.heap → tl E HZ Q →
    codeAny (model P w) A (.call (.ref f) ⟨[], []⟩) (CR (L2.CX P w) outer P w HZ s Q E) s
section
variable {P : Program} {w : World} {K : PySem.W.Frag} {mg : Str → Option Value} {base : Heap} {k : Nat} {fs fs' : List Addr} {f : Addr} {H0 H1 : Hp} {h0 h1 : Heap} {tl : XK → Hp → VK → Prop}
theorem LamV.step (l : LamV P w K mg base k fs f H0 h0 tl) (u : Un fs [] H0 H1 h0 h1) (m : ∀ b ∈ fs, b ∈ fs') (n : ∀ b ∈ fs', b ∈ fs ∨ h0.get? b = none) : LamV P w K mg base k fs' f H1 h1 tl := by
  obtain ⟨q, params, body, scope, cl, pm, ctv, c', e⟩ := l.obj
  refine ⟨⟨q, params, body, scope, cl, pm, ctv, c', u.keep f _ e l.non l.nfr (by simp)⟩, u.free f _ e l.non (by simp), fun z => (n f z).elim l.nfr (fun y => by rw [y] at e; cases e), fun A outer s HZ Q E hr e0 u2 h => ?_⟩
  exact l.run A outer s HZ Q E hr e0 (un_less ((u.mono m (fun b hb => hb)).trans u2) m n) h
end
/-- a def that gets a lambda first -/
structure FnL (P : Program) (w : World) (K : PySem.W.Frag) (mg : Str → Option Value) (base : Heap) (k kl : Nat) (g : Addr) (fd : FuncData) (ps : List Str) (sp : (XK → Hp → VK → Prop) → Sp) : Prop where
  len : ∀ tl vs H Q E, sp tl vs H Q E → vs.length + 1 = ps.length
  run : ∀ (A : Around) (outer : List Env) (s : Shared) (H : Hp) (us : List Value) (vs : List V) (Q : VK) (f : Addr) (tl : XK → Hp → VK → Prop), Room k A → Env0 P w K mg base A outer s H → BindsTo s fd ⟨.ref f :: us, []⟩ (ps.zip (.ref f :: us)) → Vals vs us →
    LamV P w K mg base kl (frs outer) f H s.heap tl → sp tl vs H Q E0 → codeAny (model P w) A (.call (.ref g) ⟨.ref f :: us, []⟩) (CR CX0 outer P w H s Q E0) s
structure DfnL (P : Program) (w : World) (K : PySem.W.Frag) (mg : Str → Option Value) (base : Heap) (k kl : Nat) (x : Str) (ps : List Str) (sp : (XK → Hp → VK → Prop) → Sp) : Prop where
  ex : ∃ (g : Addr) (fd : FuncData), FnL P w K mg base k kl g fd ps sp ∧ mg x = some (.ref g) ∧ PySem.W.keepIn K (.ref g) = true ∧ Binds K fd ps []
section
variable {P : Program} {w : World} {K : PySem.W.Frag} {mg : Str → Option Value} {base : Heap}
theorem okL {x : Str} {st : Stmt} {g : Addr} {fd : FuncData} {N ps : List Str} {k kl : Nat} {sp : (XK → Hp → VK → Prop) → Sp} (F : Fun K x x st g fd) (S : FnScope N ps (defScope st)) (len : ∀ tl vs H Q E, sp tl vs H Q E → vs.length + 1 = ps.length)
    (hbody : ∀ (cdv : Value) (A : Around) (outer : List Env) (s : Shared) (H : Hp) (vs : List V) (Q : VK) (f : Addr) (tl : XK → Hp → VK → Prop), Room k (A.deeper (envOfC x (defScope st) s.heap.objs.size g cdv)) → LamV P w K mg base kl (frs outer) f H s.heap tl → sp tl vs H Q E0 →
      ∃ t, PSs (cxOf CX0 P w K mg base N x (defScope st) g cdv A outer s H E0).nox (defBody st) t ∧ t { nx := fun _ H' => Q .non H', rt := Q } (start N (.ref f :: vs)) H) : FnL P w K mg base (k + 1) kl g fd ps sp := by
  obtain ⟨oc, od, kV, doc, pm, an, cdv, ct, osl, rfl, lk, hcd⟩ := F.ex
  refine ⟨len, fun A outer s H us vs Q f tl hr e0 hb r hl hsp => LamX.run_ofS lk hcd S hr e0 hb (vs := .ref f :: vs) (.cons rfl r) (len tl vs H Q E0 hsp) fun hr' => ?_⟩
  obtain ⟨t, h, q⟩ := hbody cdv A outer s H vs Q f tl hr' hl hsp
  exact ⟨t, h.nox, q⟩
end
/-! calls of it, calls that hand it on -/
def tLamC (i : Nat) (f : Addr) (tl : XK → Hp → VK → Prop) (W : WX) : TE := fun σ H Q => σ[i]? = some (some (.ref f)) ∧ tl (WE W σ) H Q
def tFwd (i : Nat) (f : Addr) (sp : (XK → Hp → VK → Prop) → Sp) (tl : XK → Hp → VK → Prop) (t : TA) : TE := fun σ H Q => σ[i]? = some (some (.ref f)) ∧ t σ H fun vs H1 => sp tl vs H1 Q E0
section
variable {X : Cx} {k kl i : Nat} {f : Addr} {tl : XK → Hp → VK → Prop} {W : WX} {a x : Str} {p1 p2 pos : Pos} {ps : List Str} {sp : (XK → Hp → VK → Prop) → Sp} {es : List Expr} {t : TA}
theorem pe_lamc (hL : LamV X.prog X.w X.K X.mg X.base k X.fs f X.H_0 X.s_0.heap tl) (hex : X.ex = []) (hr : Room k X.A) (tk : Takes X W) (hN : X.N[i]? = some a := by rfl) (hv : Vis X.env.scope a := by first | exact Or.inl rfl | exact Or.inr (Or.inl rfl) | exact Or.inr (Or.inr rfl)) (hd : (a == ("__debug__" : Str)) = false := by decide)
    (hcd : (a == ("__classdict__" : Str)) = false := by decide) : PE X (.Call (.Name a p1) [] [] p2) (tLamC i f tl W) := by
  refine ⟨fun pins s σ H Q I h => ?_⟩
  obtain ⟨hs, ht⟩ := h
  refine wpAny_Call_Name_kw (thn ((pe_var (pos := p1) (i := i) hN hv hd hcd).run pins s σ H (fun v H1 => v = .ref f ∧ H1 = H) I ⟨.ref f, hs, rfl, rfl⟩) fun u s1 ⟨v, H1, I1, r1, ev, eH⟩ => ?_)
  subst ev eH
  cases r1
  have u1 : Un X.fs [] X.H_0 H1 X.s_0.heap s1.heap := by have := I1.base; rwa [hex] at this
  have L1 := hL.step u1 (fun _ hb => hb) fun _ hb => .inl hb
  obtain ⟨q, params, body, scope, cl, pm, ctv, c', e⟩ := L1.obj
  refine PySem.W.callWith_F0 ⟨_, _, _, _, e⟩ (wpAny_call (codeAny_mono (hL.run X.A X.stack s1 H1 Q (WE W σ) hr I1.env0 u1 ht) fun r s' hq => ?_))
  cases r with
  | error er => exact passAt tk σ pins H1 s1 er s' I1 hq
  | ok fl =>
    cases fl with
    | ret u => exact I1.after hq
    | next => exact False.elim hq
    | brk => exact False.elim hq
    | cont => exact False.elim hq
theorem run_fnL {pins : List (Addr × Obj)} {σ : L2.St} {H : Hp} {s : Shared} {Q : VK} {us : List Value} {vs : List V} {g : Addr} {fd : FuncData} (F : FnL X.prog X.w X.K X.mg X.base k kl g fd ps sp) (hr : Room k X.A) (hb : Binds X.K fd ps [])
    (I : Inv X pins σ H s) (r : Vals vs us) (hL : LamV X.prog X.w X.K X.mg X.base kl (frs X.stack) f H s.heap tl) (h : sp tl vs H Q E0) : wpAny (model X.prog X.w) X.A (call (.ref g) (.ref f :: us)) (EP X pins σ Q) X.xe s := by
  have hl : (Value.ref f :: us).length = ps.length := by rw [List.length_cons, ← r.length]; exact F.len _ _ _ _ _ h
  have b := hb s (.ref f :: us) I.kIn (by rw [List.append_nil]; exact hl)
  rw [List.append_nil] at b
  refine wpAny_call (codeAny_mono (F.run X.A X.stack s H us vs Q f tl hr I.env0 b r hL h) fun r s' hq => ?_)
  cases r with
  | error e => exact False.elim hq
  | ok fl =>
    cases fl with
    | ret u => exact I.after hq
    | next => exact False.elim hq
    | brk => exact False.elim hq
    | cont => exact False.elim hq
theorem pe_fwd (D : DfnL X.prog X.w X.K X.mg X.base k kl x ps sp) (hL : LamV X.prog X.w X.K X.mg X.base kl X.fs f X.H_0 X.s_0.heap tl) (hex : X.ex = []) (hst : X.stack = X.env :: X.outer) (hfl : X.env.frame = some X.env.locals) (hr : Room k X.A) (hg : Gl X x) (ha : PA X es t)
    (hN : X.N[i]? = some a := by rfl) (hv : Vis X.env.scope a := by first | exact Or.inl rfl | exact Or.inr (Or.inl rfl) | exact Or.inr (Or.inr rfl)) (hd : (a == ("__debug__" : Str)) = false := by decide)
    (hcd : (a == ("__classdict__" : Str)) = false := by decide) (hdb : (x == ("__debug__" : Str)) = false := by decide)
    (he : starEach (.Name a p2 :: es) X.env = (false, eval (.Name a p2) X.env) :: starEach es X.env := by rfl) (hpl : (backTo pos (starEach es X.env)).any (·.1) = false := by rfl) :
    PE X (.Call (.Name x p1) (.Name a p2 :: es) [] pos) (tFwd i f sp tl t) := by
  obtain ⟨g, fd, F, hm, hk, hb⟩ := D.ex
  refine ⟨fun pins s σ H Q I h => ?_⟩
  obtain ⟨hs, ht⟩ := h
  refine wpAny_Call_Name_kw (ld_glob I hg hm ?_ hdb)
  refine PySem.W.callWith_K (h₀ := X.base) I.ok.mod.kin hk ?_ he hpl
  rw [he]
  show wpAny _ _ (spliced ((false, eval (.Name a p2) X.env) :: backTo pos (starEach es X.env))) _ _ _
  refine Calls.spliced_cons (thn ((pe_var (pos := p2) (i := i) hN hv hd hcd).run pins _ σ H (fun v H1 => v = .ref f ∧ H1 = H) I ⟨.ref f, hs, rfl, rfl⟩) fun u s1 ⟨v, H1, I1, r1, ev, eH⟩ => ?_)
  subst ev eH
  cases r1
  refine thn (ha.run pos pins s1 σ H1 _ I1 ht) fun us s2 ⟨vs, H2, I2, r, q⟩ => ⟨I2.kIn, run_fnL F hr hb I2 r ?_ q⟩
  have u2 : Un X.fs [] X.H_0 H2 X.s_0.heap s2.heap := by have := I2.base; rwa [hex] at this
  refine hL.step u2 (fun b hb => ?_) fun b hb => ?_
  · rw [hst]
    show b ∈ List.filterMap (·.frame) (X.env :: X.outer)
    rw [List.filterMap_cons, hfl]
    exact List.mem_cons_of_mem _ hb
  · rw [hst] at hb
    have hb : b ∈ List.filterMap (·.frame) (X.env :: X.outer) := hb
    rw [List.filterMap_cons, hfl] at hb
    rcases List.mem_cons.mp hb with e | e
    · refine .inr ?_
      rw [e]
      exact Heap.get?_none_of_le I2.ok.above
    · exact .inl e
/-! a lambda without parameters, made as the first argument -/
def tLam2 (T : List (Addr × Str)) (q : Str) (sp : (XK → Hp → VK → Prop) → Sp) (t : XK → TE) (ta : TA) : TE := fun σ H Q => LamX.Tabs T H ∧ ∀ H1, LamX.ExtN H H1 → LamX.Tabs T H1 → ∀ c', H1 c' = some (LamX.CodeO c' q) →
  ta σ H1 fun vs H2 => sp (fun E HZ Q' => HZ c' = some (LamX.CodeO c' q) ∧ t E σ HZ Q') vs H2 Q E0
theorem pe_lam {T : List (Addr × Str)} {c P : Addr} {params : Arguments} {body : Expr} {scope : Scope} {tb : XK → TE} {lpos : Pos} (D : DfnL X.prog X.w X.K X.mg X.base k (kl + 1) x ps sp) (hr : Room k X.A) (hg : Gl X x) (ha : PA X es t)
    (TB : LamX.TabB X.base X.mg c P) (hcode : X.env.code = .ref c) (hmT : (P, X.env.qual ++ "<lambda>") ∈ T) (hu : ∀ p ∈ T, p.1 = P → p.2 = X.env.qual ++ "<lambda>") (L : LamX.LamS X.env.scope scope) (hdef : defaultsOf params X.env = ([], []))
    (hbind : ∀ (q : Str) (cl : List (Str × Addr)) (pm cv ctv : Value), bindArgs (PySem.W.kla_fn "<lambda>" q params body scope cl pm cv ctv) ⟨[], []⟩ = pure [])
    (hbody : ∀ (A : Around) (outer : List Env) (s : Shared) (H : Hp) (E : XK) (f c' : Addr), Room kl (A.deeper (LamX.lamEnv X scope s.heap.objs.size f c')) → PE (LamX.lamCx X A outer s H E scope f c') body (tb E))
    (hst : X.stack = X.env :: X.outer) (hfl : X.env.frame = some X.env.locals) (hdb : (x == ("__debug__" : Str)) = false := by decide)
    (he : starEach (.Lambda params body scope lpos :: es) X.env = (false, eval (.Lambda params body scope lpos) X.env) :: starEach es X.env := by rfl) (hpl : (backTo pos (starEach es X.env)).any (·.1) = false := by rfl) :
    PE X (.Call (.Name x p1) (.Lambda params body scope lpos :: es) [] pos) (tLam2 T (X.env.qual ++ "<lambda>") sp tb t) := by
  obtain ⟨g, fd, F, hm, hk, hb⟩ := D.ex
  refine ⟨fun pins s σ H Q I h => ?_⟩
  obtain ⟨hT, h⟩ := h
  refine wpAny_Call_Name_kw (ld_glob I hg hm ?_ hdb)
  refine PySem.W.callWith_K (h₀ := X.base) I.ok.mod.kin hk ?_ he hpl
  rw [he]
  show wpAny _ _ (spliced ((false, eval (.Lambda params body scope lpos) X.env) :: backTo pos (starEach es X.env))) _ _ _
  refine Calls.spliced_cons (LamX.lam_make2 (I.tok _) TB hcode hmT hu hT hdef (L.has I.ok) fun f c' pm' ctv H1 s1 I1 eN T1 hf hfn hfr hco => ?_)
  rw [hst] at hfr
  have hfr2 : f ∉ X.env.locals :: frs X.outer := by
    have e : frs (X.env :: X.outer) = X.env.locals :: frs X.outer := by
      unfold frs
      rw [List.filterMap_cons, hfl]
    rwa [e] at hfr
  have hnl : f ≠ X.env.locals := fun z => hfr2 (by rw [z]; exact List.mem_cons_self)
  have hnf : f ∉ X.fs := fun z => hfr2 (List.mem_cons_of_mem _ z)
  generalize eo : PySem.W.kla_obj "<lambda>" (X.env.qual ++ "<lambda>") params body scope (cloFrom X.env.cells scope.names []) pm' c' ctv = o at hf
  have J1 : Inv X (pins ++ [(f, o)]) σ H1 s1 := I1.pins_of fun p hp => by
    rcases List.mem_append.mp hp with z | z
    · exact I1.pin p (List.mem_append_right _ z)
    · rw [List.mem_singleton.mp z]
      refine ⟨hf, hfn, hnl, hnf, fun v z => ?_⟩
      rw [← eo] at z
      cases z
  refine thn (ha.run pos _ s1 σ H1 _ J1 (h H1 eN T1 c' hco)) fun us s2 ⟨vs, H2, J2, r, q⟩ => ?_
  have I2 := J2.unpinned
  obtain ⟨hf2, hn2, _⟩ := J2.pin (f, o) (List.mem_append_right _ (List.mem_append_right _ (List.mem_singleton.mpr rfl)))
  refine ⟨I2.kIn, run_fnL F hr hb I2 r ⟨⟨_, _, _, _, _, _, _, _, by rw [eo]; exact hf2⟩, hn2, by rw [hst]; exact hfr, fun A outer s HZ Q' E hr' e0 u ⟨hcz, ht⟩ => ?_⟩ q⟩
  have u0 := u
  obtain ⟨⟨oc, us', t', hoc, hdc, hvc⟩, _, _⟩ := e0.hok c' _ hcz
  have of1 : s.heap.get? f = some (PySem.W.kla_obj "<lambda>" (X.env.qual ++ "<lambda>") params body scope (cloFrom X.env.cells scope.names []) pm' c' ctv) := by
    rw [eo]
    exact u.keep f _ hf2 hn2 (by rw [hst]; exact hfr) (by simp)
  refine PySem.W.kla_callFunE hr'.depth of1 rfl L.co L.gen rfl ⟨c', oc, us', t', rfl, hoc, hdc, hvc⟩ ?_
  rw [hbind]
  have hnl' : s.heap.NoLimit := e0.mod.nolimit.keeps fun b o e => (e0.bs b o e).1
  refine wpAny_pure (wpAny_newFunctionEnv (fun y hy => (L.own y hy).2) (fun y hy => absurd hy (by simp)) (fun h₁ hns hsb => ⟨hnl'.fresh _ hsb, ?_⟩) L.kind)
  have kp : ∀ b o, s.heap.get? b = some o → h₁.get? b = some o := fun b o e => hsb.extBut b o (Nat.ne_of_lt (Heap.lt_size e)) (Heap.get?_push_of_some _ e)
  have J := LamX.lam_start2 (E := E) (f := f) (c' := c') (tk := s.toks + ([] : List (Str × Value)).length) I2 L e0 hr'.hd u0 hns kp
  refine PySem.W.kla_codeExpr (wpAny_mono ((hbody A outer s HZ E f c' (hr'.deeper _)).run [] _ _ HZ Q' J ht) (fun v s' hq => ?_) fun e s' hq => hq)
  obtain ⟨w', H', J', rv, q⟩ := hq
  exact ⟨w', H', J'.os, J'.bare, J'.base, J'.hok, rv, q⟩
theorem i_lam2 {T : List (Addr × Str)} {q : Str} {tb : XK → TE} {ta : TA} {σ : L2.St} {H : Hp} {Q : VK} (hT : LamX.Tabs T H) (h : ∀ H1, LamX.ExtN H H1 → LamX.Tabs T H1 → ∀ c', H1 c' = some (LamX.CodeO c' q) → ta σ H1 fun vs H2 => sp (fun E HZ Q' => HZ c' = some (LamX.CodeO c' q) ∧ tb E σ HZ Q') vs H2 Q E0) : tLam2 T q sp tb ta σ H Q := ⟨hT, h⟩
/-- the name of the lambdas of a def -/
abbrev lq (x : Str) : Str := (x ++ ".<locals>.") ++ "<lambda>"
end
end Eg

set_option Elab.async false
set_option linter.all false
set_option maxRecDepth 100000
set_option maxHeartbeats 4000000
namespace Eg
open PySem PySem.Spec PyProof.Rows L2 Rl SX
/-- what isinstance asks of an exception's class -/
structure XisC (K : PySem.W.Frag) (D : Addr) : Prop where
  hcl : (PySem.W.clsIn K D).isSome = true
  hga : PySem.W.findIn K (.ref D) "__getattribute__" = some (some (.builtin "BaseException.__getattribute__"))
  hgt : PySem.W.findIn K (.ref D) "__getattr__" = some none
  hsub : PySem.W.subIn K (.ref D) (.type "BaseException") = some true
  ha : PySem.W.findIn K (.ref D) "__class__" = some (some (.builtin "object.__class__"))
  hn : PySem.W.specialIn K (.builtin "object.__class__") "__get__" = some (some (.builtin "getset_descriptor.__get__"))
  htk : PySem.W.takesIn K (.builtin "object.__class__") = some true
  hm : PySem.W.mroIn K D (.type "object") = some true
/-- the caught exception, asked by isinstance: one class or a tuple of them that was just laid -/
def rIsX (K : PySem.W.Frag) (a : Addr) (cls : Value) (d : Option Addr) : List V → Hp → VK → Prop := fun xs H Q => ∃ (D dd : Addr) (fs : List (Str × V)) (c : V) (b : Bool), xs = [.ref a, c] ∧ cls = .ref D ∧ XisC K D ∧ d = some dd ∧ H dd = some (.xd fs) ∧
  ((∃ cv, ClsV c cv ∧ PySem.W.kitOne K (.ref D) cv = some b) ∨ ∃ (tp : Addr) (cs : List V) (us : List Value), c = .ref tp ∧ H tp = some (.tup cs) ∧ Paired ClsV cs us ∧ PySem.W.kitAny K (.ref D) us = some b) ∧ Q (.bl b) H
/-- its field -/
def tXfA (K : PySem.W.Frag) (a : Addr) (cls : Value) (d : Option Addr) (f : Str) (te : TE) : TE := fun σ H Q => te σ H fun x H1 => ∃ (C dd : Addr) (fs : List (Str × V)) (v : V), x = .ref a ∧ cls = .ref C ∧ XfC K C ∧ PySem.W.findIn K (.ref C) f = some none ∧ d = some dd ∧ H1 dd = some (.xd fs) ∧ fs.lookup f = some v ∧ Q v H1
section
variable {X : Cx} {a : Addr} {cls : Value} {d : Option Addr} {oe : Obj} {pn : List (Addr × Obj)} {e : Expr} {te : TE} {pos : Pos} {n : Str}
theorem inst_at {X : Cx} {C dd : Addr} {fs : List (Str × V)} {pins : List (Addr × Obj)} {σ : L2.St} {H : Hp} {s : Shared} (I : Inv (X.suite a ((a, oe) :: pn)) pins σ H s) (hz : Zc (.ref C) (some dd) oe) (hf : ∃ vs, oe.data = .fields vs) (ea : H dd = some (.xd fs)) :
    ∃ od, PySem.W.InstAt s.heap a oe C (some od) ∧ ∀ v, fs.lookup n = some v → ∃ u, PySem.W.lookIn n od = some (some u) ∧ RelV v u := by
  obtain ⟨ha, _⟩ := I.pin (a, oe) (List.mem_append_left _ List.mem_cons_self)
  obtain ⟨vs, hd⟩ := hf
  obtain ⟨mA, hns, hr⟩ := (show ObjOk X.prog X.w H s.heap dd (.xd fs) from I.hok dd _ ea)
  obtain ⟨od, ho, hl⟩ := lookIn_ns hns
  refine ⟨od, ⟨ha, hz.1, by unfold PySem.W.notCls; rw [hd] <;> rfl, by rw [hz.2]; exact ho⟩, fun v l => ?_⟩
  obtain ⟨u, hu, ru⟩ := RelO.some_of (v := v) (o := mA n) (by rw [← l]; exact hr n)
  exact ⟨u, by rw [hl, hu], ru⟩
theorem pe_xfA (hz : Zc cls d oe) (hf : ∃ vs, oe.data = .fields vs) (he : PE (X.suite a ((a, oe) :: pn)) e te) (hb : attributeBase e n X.env (eval e X.env) = eval e X.env := by rfl) :
    PE (X.suite a ((a, oe) :: pn)) (.Attribute e n pos) (tXfA X.K a cls d n te) := by
  refine ⟨fun pins s σ H Q I h => attr_of hb (thn (he.run pins s σ H _ I h) fun u s1 ⟨x, H1, I1, rx, C, dd, fs, v, ex, ec, T, hno, ed, ea, l, q⟩ => ?_)⟩
  subst ex ec ed
  cases rx
  obtain ⟨od, J, g⟩ := inst_at (n := n) I1 hz hf ea
  obtain ⟨u, hu, ru⟩ := g v l
  exact HandSPX.exc_get I1.kIn J T.ga T.gg T.exC (PySem.W.findObj_own T.hdC hno rfl hu) (handed_of ru) ⟨v, H1, I1.tok _, ru, q⟩
theorem call_isX (hz : Zc cls d oe) (hf : ∃ vs, oe.data = .fields vs) : CallR (X.suite a ((a, oe) :: pn)) (.builtin "isinstance") (rIsX X.K a cls d) := by
  intro pins s σ H xs us Q I r h
  obtain ⟨D, dd, fs, c, b, rfl, ec, T, ed, ea, h, q⟩ := h
  subst ec ed
  obtain ⟨u1, u2, rfl, r1, r2⟩ := vals2 r
  cases (show u1 = Value.ref a from r1)
  obtain ⟨od, J, _⟩ := inst_at (n := "x") I hz hf ea
  have Z := PySem.W.kitx_exc (x := a) (ox := oe) (od := some od) T.hcl T.hga T.hgt T.hsub T.ha T.hn T.htk T.hm
  rcases h with ⟨cv, k, e1⟩ | ⟨tp, cs, ws, ec, hT, k, e1⟩
  · have e2 := k.eq r2
    subst e2
    exact PySem.W.kia_one Z I.kIn J e1 (fun z => nomatch z) fun tk => ⟨.bl b, H, I.tok tk, rfl, q⟩
  · subst ec
    cases (show u2 = Value.ref tp from r2)
    obtain ⟨_, its, rv, o, h1, h2, m, h3⟩ := (show ObjOk X.prog X.w H s.heap tp (.tup cs) from I.hok tp _ hT)
    have e3 := ClsV.all k rv
    subst e3
    obtain ⟨oc, od', dt, sl⟩ := o
    simp only at h2 h3
    subst h2 h3
    exact PySem.W.kia_tup Z I.kIn J h1 e1 (fun z => nomatch z) fun tk => ⟨.bl b, H, I.tok tk, rfl, q⟩
end
/-! a def that gets the caught exception -/
structure FnE (P : Program) (w : World) (K : PySem.W.Frag) (mg : Str → Option Value) (base : Heap) (k : Nat) (g : Addr) (fd : FuncData) (ps : List Str) (sp : Value → Option Addr → Sp) : Prop where
  one : ps.length = 1
  run : ∀ (A : Around) (outer : List Env) (s : Shared) (H : Hp) (Q : VK) (a : Addr) (oe : Obj) (cls : Value) (d : Option Addr), L2H.RoomH k (A.mark (some (.ref a))) → L2H.PinOk outer H s (a, oe) → Zc cls d oe → (∃ vs, oe.data = .fields vs) → Env0 P w K mg base (A.mark (some (.ref a))) outer s H →
    BindsTo s fd ⟨[.ref a], []⟩ (ps.zip [.ref a]) → sp cls d [.ref a] H Q E0 → codeAny (model P w) (A.mark (some (.ref a))) (.call (.ref g) ⟨[.ref a], []⟩) (CR CX0 outer P w H s Q E0) s
structure DfnE (P : Program) (w : World) (K : PySem.W.Frag) (mg : Str → Option Value) (base : Heap) (k : Nat) (x : Str) (ps : List Str) (sp : Value → Option Addr → Sp) : Prop where
  ex : ∃ (g : Addr) (fd : FuncData), FnE P w K mg base k g fd ps sp ∧ mg x = some (.ref g) ∧ PySem.W.keepIn K (.ref g) = true ∧ Binds K fd ps []
section
variable {P : Program} {w : World} {K : PySem.W.Frag} {mg : Str → Option Value} {base : Heap}
theorem okE {x : Str} {st : Stmt} {g : Addr} {fd : FuncData} {N ps : List Str} {k : Nat} {sp : Value → Option Addr → Sp} (F : Fun K x x st g fd) (S : FnScope N ps (defScope st)) (one : ps.length = 1)
    (hbody : ∀ (cdv : Value) (A : Around) (outer : List Env) (s : Shared) (H : Hp) (Q : VK) (a : Addr) (oe : Obj) (cls : Value) (d : Option Addr), L2H.RoomH k ((A.deeper (envOfC x (defScope st) s.heap.objs.size g cdv)).mark (some (.ref a))) → Zc cls d oe → (∃ vs, oe.data = .fields vs) → sp cls d [.ref a] H Q E0 →
      ∃ t, PSs ((cxOf CX0 P w K mg base N x (defScope st) g cdv A outer s H E0).suite a [(a, oe)]) (defBody st) t ∧ t { nx := fun _ H' => Q .non H', rt := Q } (start N [.ref a]) H) : FnE P w K mg base (k + 1) g fd ps sp := by
  obtain ⟨oc, od, kV, doc, pm, an, cdv, ct, osl, rfl, lk, hcd⟩ := F.ex
  refine ⟨one, fun A outer s H Q a oe cls d hr hp hz hf e0 hb hsp => ?_⟩
  have KX : K.In s.heap := e0.mod.kin.keeps fun b o e => (e0.bs b o e).1
  have hkind : ∀ y ∈ ps.zip [Value.ref a], (defScope st).names.lookup y.1 = some .local ∨ ((defScope st).names.lookup y.1 = some .cell ∧ ((cellsFrom (s.heap.objs.size + 1) (defScope st).names []).lookup y.1).isSome = true) := fun ⟨n, v⟩ hy =>
    (S.par n (List.of_mem_zip hy).1).elim .inl fun q => .inr ⟨q, PySem.W.cellsFrom_some _ _ _ (.inl q)⟩
  refine codeAny_call_function hr.depth (KX _ _ lk) rfl S.co S.gen rfl (PySem.W.codeRec_of KX hcd) (hb _ _ _ _ (wpAny_newFunctionEnv_cells S.kind hkind fun env he s1 x1 => ?_))
  subst he
  refine ⟨(e0.mod.nolimit.keeps fun b o e => (e0.bs b o e).1).keeps x1.toInCall.keep, codeAny_func ?_⟩
  obtain ⟨t, ht, hq⟩ := hbody cdv A outer s H Q a oe cls d (hr.deeper _) hz hf hsp
  have I0 := L2H.inv_startH (CX := CX0) (E := E0) (f := g) (cd := cdv) S hp e0 (vs := [.ref a]) (by rw [one]; rfl) (.cons rfl .nil) x1
  have I : Inv ((cxOf CX0 P w K mg base N x (defScope st) g cdv A outer s H E0).suite a [(a, oe)]) [] (start N [.ref a]) H s1 := inv_around I0 (Around.frames_deeper e0.frames)
  refine wpAny_mono (ht.run [] s1 (start N [.ref a]) H _ I hq) (fun fl s' hs => ?_) fun e s' hs => hs.elim
  cases fl with
  | ret u =>
    obtain ⟨v, σ', H', J, rv, q⟩ := hs
    exact ⟨v, H', J.os, J.bare, J.base, J.hok, rv, q⟩
  | next =>
    obtain ⟨σ', H', J, q⟩ := hs
    exact ⟨.non, H', J.os, J.bare, J.base, J.hok, rfl, q⟩
  | brk => exact hs.elim fun _ h => h.elim fun _ h => h.2.elim
  | cont => exact hs.elim fun _ h => h.elim fun _ h => h.2.elim
end
/-- the call, in an except suite -/
def tCallE (i : Nat) (a : Addr) (cls : Value) (d : Option Addr) (sp : Value → Option Addr → Sp) : TE := fun σ H Q => σ[i]? = some (some (.ref a)) ∧ sp cls d [.ref a] H Q E0
section
variable {X : Cx} {a : Addr} {cls : Value} {d : Option Addr} {oe : Obj} {pn : List (Addr × Obj)} {k i : Nat} {x y : Str} {ps : List Str} {sp : Value → Option Addr → Sp} {p1 p2 pos : Pos}
theorem pe_dfnE (D : DfnE X.prog X.w X.K X.mg X.base k x ps sp) (hr : L2H.RoomH k (X.A.mark (some (.ref a)))) (hz : Zc cls d oe) (hf : ∃ vs, oe.data = .fields vs) (hg : Gl X x)
    (hN : X.N[i]? = some y := by rfl) (hv : Vis X.env.scope y := by first | exact Or.inl rfl | exact Or.inr (Or.inl rfl) | exact Or.inr (Or.inr rfl)) (hd : (y == ("__debug__" : Str)) = false := by decide)
    (hcd : (y == ("__classdict__" : Str)) = false := by decide) (hdb : (x == ("__debug__" : Str)) = false := by decide)
    (he : starEach [.Name y p2] X.env = (false, eval (.Name y p2) X.env) :: starEach [] X.env := by rfl) :
    PE (X.suite a ((a, oe) :: pn)) (.Call (.Name x p1) [.Name y p2] [] pos) (tCallE i a cls d sp) := by
  obtain ⟨g, fd, F, hm, hk, hb⟩ := D.ex
  refine ⟨fun pins s σ H Q I h => ?_⟩
  obtain ⟨hs, ht⟩ := h
  refine wpAny_Call_Name_kw (ld_glob I hg hm ?_ hdb)
  refine PySem.W.callWith_K (h₀ := X.base) I.ok.mod.kin hk ?_ he rfl
  rw [he]
  show wpAny _ _ (spliced ((false, eval (.Name y p2) X.env) :: backTo pos (starEach [] X.env))) _ _ _
  refine Calls.spliced_cons (thn ((pe_var (X := X.suite a ((a, oe) :: pn)) (pos := p2) (i := i) hN hv hd hcd).run pins _ σ H (fun v H1 => v = .ref a ∧ H1 = H) I ⟨.ref a, hs, rfl, rfl⟩) fun u s1 ⟨v, H1, I1, r1, ev, eH⟩ => ?_)
  subst ev eH
  cases r1
  refine Calls.spliced_nil ⟨I1.kIn, ?_⟩
  have hl : [Value.ref a].length = ps.length := F.one.symm
  have b := hb s1 [.ref a] I1.kIn (by rw [List.append_nil]; exact hl)
  rw [List.append_nil] at b
  have P1 := I1.pin (a, oe) (List.mem_append_left _ List.mem_cons_self)
  have hpin : L2H.PinOk X.stack H1 s1 (a, oe) := ⟨P1.1, P1.2.1, fun hm => (List.mem_cons.mp (I1.stkSub a hm)).elim P1.2.2.1 P1.2.2.2.1, P1.2.2.2.2⟩
  refine wpAny_call (codeAny_mono (F.run X.A X.stack s1 H1 Q a oe cls d hr hpin hz hf I1.env0 b ht) fun r s' hq => ?_)
  cases r with
  | error e => exact False.elim hq
  | ok fl =>
    cases fl with
    | ret u => exact I1.after hq
    | next => exact False.elim hq
    | brk => exact False.elim hq
    | cont => exact False.elim hq
end
/-- a def whose code object is known -/
theorem okC {P : Program} {w : World} {K : PySem.W.Frag} {mg : Str → Option Value} {base : Heap} {x qual : Str} {st : Stmt} {f c : Addr} {fd : FuncData} {N ps : List Str} {k : Nat} {sp : Sp} (F : Fun K x qual st f fd) (hc : fd.code = .ref c) (S : FnScope N ps (defScope st)) (len : ∀ vs H Q E, sp vs H Q E → vs.length = ps.length)
    (hbody : ∀ (A : Around) (outer : List Env) (s : Shared) (H : Hp) (vs : List V) (Q : VK) (E : XK), Room k (A.deeper (envOfC qual (defScope st) s.heap.objs.size f (.ref c))) → sp vs H Q E →
      ∃ t, PSs (cxOf CX0 P w K mg base N qual (defScope st) f (.ref c) A outer s H E).nox (defBody st) t ∧ t { nx := fun _ H' => Q .non H', rt := Q } (start N vs) H) : FnOk P w K mg base CX0 (k + 1) f fd ps sp := by
  obtain ⟨oc, od, kV, doc, pm, an, cdv, ct, osl, rfl, lk, hcd⟩ := F.ex
  obtain rfl : cdv = .ref c := hc
  refine fn_of lk hcd S len fun A outer s H vs Q E hr hsp => ?_
  obtain ⟨t, h, q⟩ := hbody A outer s H vs Q E hr hsp
  exact ⟨t, h.nox, q⟩
/-! stepping -/
section
variable {K : PySem.W.Frag} {σ : L2.St} {H : Hp} {Q : VK} {i : Nat} {f a : Addr} {tl : XK → Hp → VK → Prop} {W : WX} {spl : (XK → Hp → VK → Prop) → Sp} {t : TA} {cls : Value} {d : Option Addr} {sp : Value → Option Addr → Sp} {te : TE} {n : Str}
theorem i_lamc (h : σ[i]? = some (some (.ref f))) (k : tl (WE W σ) H Q) : tLamC i f tl W σ H Q := ⟨h, k⟩
theorem i_fwd (h : σ[i]? = some (some (.ref f))) (k : t σ H fun vs H1 => spl tl vs H1 Q E0) : tFwd i f spl tl t σ H Q := ⟨h, k⟩
theorem i_callE (h : σ[i]? = some (some (.ref a))) (k : sp cls d [.ref a] H Q E0) : tCallE i a cls d sp σ H Q := ⟨h, k⟩
def gXfA (K : PySem.W.Frag) (a : Addr) (cls : Value) (d : Option Addr) (f : Str) (x : V) (H1 : Hp) (Q : VK) : Prop := ∃ (C dd : Addr) (fs : List (Str × V)) (v : V), x = .ref a ∧ cls = .ref C ∧ XfC K C ∧ PySem.W.findIn K (.ref C) f = some none ∧ d = some dd ∧ H1 dd = some (.xd fs) ∧ fs.lookup f = some v ∧ Q v H1
theorem i_xfA (k : te σ H fun x H1 => gXfA K a cls d n x H1 Q) : tXfA K a cls d n te σ H Q := k
theorem g_xfA {C dd : Addr} {fs : List (Str × V)} {v : V} (T : XfC K C) (hn : PySem.W.findIn K (.ref C) n = some none) (h : H dd = some (.xd fs)) (l : fs.lookup n = some v) (k : Q v H) : gXfA K a (.ref C) (some dd) n (.ref a) H Q := ⟨C, dd, fs, v, rfl, rfl, T, hn, rfl, h, l, k⟩
theorem g_isx {D dd : Addr} {fs : List (Str × V)} {c : V} {cv : Value} {b : Bool} (T : XisC K D) (h : H dd = some (.xd fs)) (hc : ClsV c cv) (e : PySem.W.kitOne K (.ref D) cv = some b) (k : Q (.bl b) H) : rIsX K a (.ref D) (some dd) [.ref a, c] H Q := ⟨D, dd, fs, c, b, rfl, rfl, T, rfl, h, .inl ⟨cv, hc, e⟩, k⟩
theorem g_isxT {D dd tp : Addr} {fs : List (Str × V)} {cs : List V} {us : List Value} {b : Bool} (T : XisC K D) (h : H dd = some (.xd fs)) (ht : H tp = some (.tup cs)) (hc : Paired ClsV cs us) (e : PySem.W.kitAny K (.ref D) us = some b) (k : Q (.bl b) H) : rIsX K a (.ref D) (some dd) [.ref a, .ref tp] H Q := ⟨D, dd, fs, _, b, rfl, rfl, T, rfl, h, .inr ⟨tp, cs, us, rfl, ht, hc, e⟩, k⟩
end
end Eg

set_option Elab.async false
set_option linter.all false
set_option maxRecDepth 100000
set_option maxHeartbeats 4000000
namespace Eg
open PySem PySem.Spec PyProof.Rows L2 Rl SX
theorem bt_ValueError : bootBuiltins "ValueError" = some (.type "ValueError") := by decide +kernel
/-! lists of numbers compared -/
section
variable {K : PySem.W.Frag} {H : Hp} {Q : VK}
theorem dp_ints : ∀ (l : List Int), DpAll K H (l.map V.int) (l.map PyData.int)
  | [] => .nil
  | a :: l => .cons (.int _) (dp_ints l)
theorem can_ints : ∀ (l : List Int), PyData.canLayAll0 (l.map PyData.int) = true
  | [] => rfl
  | a :: l => by
    show (PyData.canLay0 (.int a) && PyData.canLayAll0 (l.map PyData.int)) = true
    rw [can_ints l]
    rfl
theorem dep_ints : ∀ (l : List Int), PyData.depthAll (l.map PyData.int) = 0
  | [] => rfl
  | a :: l => by
    show max (PyData.depth (.int a)) (PyData.depthAll (l.map PyData.int)) = 0
    rw [dep_ints l]
    rfl
theorem sh_ints (l : List Int) : SeqAt.shaped (.list (l.map PyData.int)) = true := by
  show (PyData.canLayAll0 _ && decide (PyData.depthAll _ + 1 ≤ 64)) = true
  rw [can_ints l, dep_ints]
  rfl
theorem eqv_int (a b : Int) : PyData.eqv (.int a) (.int b) = decide (a = b) := by
  simp only [PyData.eqv]
  by_cases h : a = b <;> simp [h]
theorem eqv_ints : ∀ (l m : List Int), PyData.eqvAll (l.map PyData.int) (m.map PyData.int) = decide (l = m)
  | [], [] => by simp [PyData.eqvAll]
  | [], _ :: _ => by simp [PyData.eqvAll]
  | _ :: _, [] => by simp [PyData.eqvAll]
  | a :: l, b :: m => by
    simp only [List.map_cons, PyData.eqvAll, eqv_int, eqv_ints l m]
    by_cases h : a = b <;> by_cases h2 : l = m <;> simp [h, h2]
theorem eqv_intsL (l m : List Int) : PyData.eqv (.list (l.map PyData.int)) (.list (m.map PyData.int)) = decide (l = m) := by
  simp only [PyData.eqv]
  exact eqv_ints l m
theorem g_eqB {a b : Bool} (k : Q (.bl (decide (a = b))) H) : uEq K (.bl a) (.bl b) H Q := by
  refine .inr ⟨.bool a, .bool b, .bl a, .bl b, rfl, rfl, ?_⟩
  have z : PyData.eqv (.bool a) (.bool b) = decide (a = b) := by cases a <;> cases b <;> rfl
  rw [z]
  exact k
theorem g_eqIL {a b : Addr} {l m : List Int} (ha : SqL K H a (l.map V.int)) (hb : SqL K H b (m.map V.int)) (k : Q (.bl (decide (l = m))) H) : uEq K (.ref a) (.ref b) H Q := by
  refine .inr ⟨.list (l.map .int), .list (m.map .int), .lst ha (dp_ints l), .lst hb (dp_ints m), sh_ints l, sh_ints m, ?_⟩
  rw [eqv_intsL]
  exact k
theorem g_neIL {a b : Addr} {l m : List Int} (ha : SqL K H a (l.map V.int)) (hb : SqL K H b (m.map V.int)) (k : Q (.bl (!decide (l = m))) H) : uNe K (.ref a) (.ref b) H Q := by
  refine .inr ⟨.list (l.map .int), .list (m.map .int), .lst ha (dp_ints l), .lst hb (dp_ints m), sh_ints l, sh_ints m, ?_⟩
  rw [eqv_intsL]
  exact k
end
end Eg

set_option Elab.async false
set_option linter.all false
set_option maxRecDepth 100000
set_option maxHeartbeats 4000000
namespace Eg
open PySem PySem.Spec PyProof.Rows L2 Rl SX
section
variable {K : PySem.W.Frag} {σ : L2.St} {H : Hp} {Q : VK} {ta tb : TE}
def gLstRg (x y : V) (H : Hp) (Q : VK) : Prop := ∃ i j, x = .int i ∧ y = .int j ∧ RgOk i j ∧ ∀ q, H q = none → Q (.ref q) (upd H q (.lst (rgV i j)))
theorem i_lstRg2 (k : ta σ H fun x H1 => tb σ H1 fun y H2 => gLstRg x y H2 Q) : tLstRg (tRg2 ta tb) σ H Q := k
theorem g_lstRg {i j : Int} (h : -1000 ≤ i ∧ i ≤ j ∧ j ≤ 100000) (k : ∀ q H', H q = none → Same H H' → H' q = some (.lst ((List.range (j - i).toNat).map fun m => V.int (i + (m : Nat)))) → Q (.ref q) H') : gLstRg (.int i) (.int j) H Q :=
  ⟨i, j, rfl, rfl, ⟨by omega, by omega, by omega, by omega, by omega⟩, fun q hq => k q _ hq (fun b u e => by rw [upd_ne (ne_of_none e hq)]; exact e) upd_same⟩
theorem g_notInL {p : Addr} {a : Int} {xs : List V} (h : SqL K H p xs) (hf : xs.all flatV = true) (k : Q (.bl (!inV (.int a) xs)) H) : uNotIn K (.int a) (.ref p) H Q := .inr ⟨p, xs, rfl, .inl h, rfl, hf, k⟩
theorem g_inL {p : Addr} {a : Int} {xs : List V} (h : SqL K H p xs) (hf : xs.all flatV = true) (k : Q (.bl (inV (.int a) xs)) H) : uIn K (.int a) (.ref p) H Q := .inr ⟨p, xs, rfl, .inl h, rfl, hf, k⟩
theorem pi_listK {X : Cx} {tg e : Expr} {te : TE} (h : X.K = K) (he : PE X e te) : PI X tg e (iList K te) := by subst h; exact pi_list he
theorem g_neB {a b : Bool} (k : Q (.bl (!decide (a = b))) H) : uNe K (.bl a) (.bl b) H Q := by
  refine .inr ⟨.bool a, .bool b, .bl a, .bl b, rfl, rfl, ?_⟩
  have z : PyData.eqv (.bool a) (.bool b) = decide (a = b) := by cases a <;> cases b <;> rfl
  rw [z]
  exact k
def uIsB : R2 := fun x y H Q => ∃ a b, x = .bl a ∧ y = .bl b ∧ Q (.bl (decide (a = b))) H
theorem op_uIsB {X : Cx} : OpR X (compareOp .Is) uIsB := op_is_bl
def uNotB : R2 := fun x y H Q => ∃ a b, x = .bl a ∧ y = .bl b ∧ Q (.bl (!decide (a = b))) H
theorem op_uNotB {X : Cx} : OpR X (compareOp .IsNot) uNotB := op_isnot_bl
theorem g_isB {a b : Bool} (k : Q (.bl (decide (a = b))) H) : uIsB (.bl a) (.bl b) H Q := ⟨a, b, rfl, rfl, k⟩
theorem g_notB {a b : Bool} (k : Q (.bl (!decide (a = b))) H) : uNotB (.bl a) (.bl b) H Q := ⟨a, b, rfl, rfl, k⟩
theorem flat_ints (l : List Int) : (l.map V.int).all flatV = true := by
  rw [List.all_eq_true]
  intro x hx
  obtain ⟨i, _, rfl⟩ := List.mem_map.mp hx
  rfl
end
end Eg

set_option Elab.async false
set_option linter.all false
set_option maxRecDepth 100000
set_option maxHeartbeats 4000000
/-! a lambda kept in a local name, handed to defs by it -/
namespace Eg
open PySem PySem.Spec PyProof.Rows L2 Rl SX
/-- the context with one more pinned object -/
abbrev lamp (X : Cx) (p : Addr × Obj) : Cx := { X with pn := X.pn ++ [p] }
theorem ok_in {X : Cx} {p : Addr × Obj} (o : X.Ok) : (lamp X p).Ok := ⟨o.mod, o.kind, o.glob, o.blt, o.above, o.inj, o.has, o.cab, o.hd, o.frames, o.stk, o.exf, o.bs, o.bsz, o.noex, o.exfs, o.funs, o.frf⟩
theorem ok_out {X : Cx} {p : Addr × Obj} (o : (lamp X p).Ok) : X.Ok := ⟨o.mod, o.kind, o.glob, o.blt, o.above, o.inj, o.has, o.cab, o.hd, o.frames, o.stk, o.exf, o.bs, o.bsz, o.noex, o.exfs, o.funs, o.frf⟩
section
variable {X : Cx} {p : Addr × Obj} {pins : List (Addr × Obj)} {σ : L2.St} {H : Hp} {s : Shared}
theorem inv_in (I : Inv X (p :: pins) σ H s) : Inv (lamp X p) pins σ H s :=
  ⟨ok_in I.ok, I.os, I.bare, I.base, I.loc, I.cell, I.free, I.freeC, fun q hq => I.pin q (by
    have hq : q ∈ (X.pn ++ [p]) ++ pins := hq
    simpa using hq), I.hok, I.len⟩
theorem inv_out (I : Inv (lamp X p) pins σ H s) : Inv X (p :: pins) σ H s :=
  ⟨ok_out I.ok, I.os, I.bare, I.base, I.loc, I.cell, I.free, I.freeC, fun q hq => I.pin q (by
    show q ∈ (X.pn ++ [p]) ++ pins
    simpa using hq), I.hok, I.len⟩
theorem inv_drop (I : Inv (lamp X p) pins σ H s) : Inv X pins σ H s := (inv_out I).pins_of fun q hq => (inv_out I).pin q (List.mem_append_right _ (List.mem_cons_of_mem _ hq))
theorem sp_drop {D : Ends} {f : Flow} {s' : Shared} (h : SP (lamp X p) pins D f s') : SP X pins D f s' := by
  cases f with
  | next => obtain ⟨a, b, I, q⟩ := h; exact ⟨a, b, inv_drop I, q⟩
  | brk => obtain ⟨a, b, I, q⟩ := h; exact ⟨a, b, inv_drop I, q⟩
  | cont => obtain ⟨a, b, I, q⟩ := h; exact ⟨a, b, inv_drop I, q⟩
  | ret u => obtain ⟨v, a, b, I, r, q⟩ := h; exact ⟨v, a, b, inv_drop I, r, q⟩
end
/-- the lambda's object -/
abbrev lamO (X : Cx) (params : Arguments) (body : Expr) (scope : Scope) (pm : Value) (c' : Addr) (ctv : Value) : Obj := PySem.W.kla_obj "<lambda>" (X.env.qual ++ "<lambda>") params body scope (cloFrom X.env.cells scope.names []) pm c' ctv
def tLamS (T : List (Addr × Str)) (q : Str) (i : Nat) (tr : Addr → Addr → TS) : TS := fun D σ H => LamX.Tabs T H ∧ ∀ f c' H1, LamX.ExtN H H1 → LamX.Tabs T H1 → H1 c' = some (LamX.CodeO c' q) → tr f c' D (σ.set i (some (.ref f))) H1
section
variable {X : Cx} {T : List (Addr × Str)} {c P : Addr} {params : Arguments} {body : Expr} {scope : Scope} {lpos pos pos' : Pos} {i : Nat} {x : Str} {rest : List Stmt} {tr : Addr → Addr → TS}
theorem pss_lam (TB : LamX.TabB X.base X.mg c P) (hcode : X.env.code = .ref c) (hmT : (P, X.env.qual ++ "<lambda>") ∈ T) (hu : ∀ p ∈ T, p.1 = P → p.2 = X.env.qual ++ "<lambda>") (L : LamX.LamS X.env.scope scope) (hdef : defaultsOf params X.env = ([], []))
    (hN : X.N.Nodup) (hi : X.N[i]? = some x) (hx : Loc X.env.scope x) (hst : X.stack = X.env :: X.outer) (hfl : X.env.frame = some X.env.locals)
    (hr : ∀ (f c' : Addr) (pm ctv : Value), PSs (lamp X (f, lamO X params body scope pm c' ctv)) rest (tr f c'))
    (hs : swapsWith (.Lambda params body scope lpos) (some (.Name x pos')) pos.line X.env = pure false := by rfl) (hf : X.fn x = true ∨ X.env.scope.names.lookup x = some .local := by first | exact .inl rfl | exact .inr rfl | assumption) :
    PSs X (.Assign [.Name x pos'] (.Lambda params body scope lpos) pos :: rest) (tLamS T (X.env.qual ++ "<lambda>") i tr) := by
  refine ⟨fun pins s σ H D I h => ?_⟩
  obtain ⟨hT, h⟩ := h
  refine wpAny_execs_cons (wpAny_Assign_Name (LamX.lam_make2 I TB hcode hmT hu hT hdef (L.has I.ok) fun f c' pm' ctv H1 s1 I1 eN T1 hf1 hfn hfr hco => ?_) hs)
  rw [hst] at hfr
  have hfr2 : f ∉ X.env.locals :: frs X.outer := by
    have e : frs (X.env :: X.outer) = X.env.locals :: frs X.outer := by
      unfold frs
      rw [List.filterMap_cons, hfl]
    rwa [e] at hfr
  have hnl : f ≠ X.env.locals := fun z => hfr2 (by rw [z]; exact List.mem_cons_self)
  have hnf : f ∉ X.fs := fun z => hfr2 (List.mem_cons_of_mem _ z)
  have J1 : Inv X ((f, lamO X params body scope pm' c' ctv) :: pins) σ H1 s1 := I1.pins_of fun p hp => by
    rcases List.mem_cons.mp hp with z | z
    · rw [z]
      exact ⟨hf1, hfn, hnl, hnf, fun v z => nomatch z⟩
    · exact I1.pin p (List.mem_append_right _ z)
  refine store_ok J1 hN hi hx (v := .ref f) rfl (fun s2 J2 => ?_) hf
  exact thn ((hr f c' pm' ctv).run pins s2 _ H1 D (inv_in J2) (h f c' H1 eN T1 hco)) fun fl s3 q => sp_drop q
end
/-! the def called with it -/
def tFwdP (i : Nat) (f c' : Addr) (q : Str) (sp : (XK → Hp → VK → Prop) → Sp) (tb : XK → TE) (t : TA) : TE := fun σ H Q => σ[i]? = some (some (.ref f)) ∧ t σ H fun vs H1 => sp (fun E HZ Q' => HZ c' = some (LamX.CodeO c' q) ∧ tb E σ HZ Q') vs H1 Q E0
section
variable {X : Cx} {k kl i : Nat} {f c' : Addr} {a x : Str} {p1 p2 pos : Pos} {ps : List Str} {sp : (XK → Hp → VK → Prop) → Sp} {es : List Expr} {t : TA} {params : Arguments} {body : Expr} {scope : Scope} {pm ctv : Value} {tb : XK → TE}
theorem pe_fwdP (D : DfnL X.prog X.w X.K X.mg X.base k (kl + 1) x ps sp) (hr : Room k X.A) (hg : Gl X x) (L : LamX.LamS X.env.scope scope)
    (hbind : ∀ (q : Str) (cl : List (Str × Addr)) (pm cv ctv : Value), bindArgs (PySem.W.kla_fn "<lambda>" q params body scope cl pm cv ctv) ⟨[], []⟩ = pure [])
    (hbody : ∀ (A : Around) (outer : List Env) (s : Shared) (H : Hp) (E : XK) (f c' : Addr), Room kl (A.deeper (LamX.lamEnv X scope s.heap.objs.size f c')) → PE (LamX.lamCx X A outer s H E scope f c') body (tb E))
    (hst : X.stack = X.env :: X.outer) (hfl : X.env.frame = some X.env.locals)
    (ha : PA (lamp X (f, lamO X params body scope pm c' ctv)) es t)
    (hN : X.N[i]? = some a := by rfl) (hv : Vis X.env.scope a := by first | exact Or.inl rfl | exact Or.inr (Or.inl rfl) | exact Or.inr (Or.inr rfl)) (hd : (a == ("__debug__" : Str)) = false := by decide)
    (hcd : (a == ("__classdict__" : Str)) = false := by decide) (hdb : (x == ("__debug__" : Str)) = false := by decide)
    (he : starEach (.Name a p2 :: es) X.env = (false, eval (.Name a p2) X.env) :: starEach es X.env := by rfl) (hpl : (backTo pos (starEach es X.env)).any (·.1) = false := by rfl) :
    PE (lamp X (f, lamO X params body scope pm c' ctv)) (.Call (.Name x p1) (.Name a p2 :: es) [] pos) (tFwdP i f c' (X.env.qual ++ "<lambda>") sp tb t) := by
  obtain ⟨g, fd, F, hm, hk, hb⟩ := D.ex
  refine ⟨fun pins s σ H Q I h => ?_⟩
  obtain ⟨hs, ht⟩ := h
  refine wpAny_Call_Name_kw (ld_glob (X := X) (inv_drop I) hg hm ?_ hdb)
  refine PySem.W.callWith_K (h₀ := X.base) I.ok.mod.kin hk ?_ he hpl
  rw [he]
  show wpAny _ _ (spliced ((false, eval (.Name a p2) X.env) :: backTo pos (starEach es X.env))) _ _ _
  refine Calls.spliced_cons (thn ((pe_var (X := lamp X (f, lamO X params body scope pm c' ctv)) (pos := p2) (i := i) hN hv hd hcd).run pins _ σ H (fun v H1 => v = .ref f ∧ H1 = H) I ⟨.ref f, hs, rfl, rfl⟩) fun u s1 ⟨v, H1, I1, r1, ev, eH⟩ => ?_)
  subst ev eH
  cases r1
  refine thn (ha.run pos pins s1 σ H1 _ I1 ht) fun us s2 ⟨vs, H2, J2, r, q⟩ => ⟨J2.kIn, ?_⟩
  have I2 : Inv X ((f, lamO X params body scope pm c' ctv) :: pins) σ H2 s2 := inv_out J2
  obtain ⟨hf2, hn2, hnl, hnf, _⟩ := I2.pin (f, lamO X params body scope pm c' ctv) (List.mem_append_right _ List.mem_cons_self)
  have hfr : f ∉ frs X.stack := by
    rw [hst]
    have e : frs (X.env :: X.outer) = X.env.locals :: frs X.outer := by
      unfold frs
      rw [List.filterMap_cons, hfl]
    rw [e]
    exact fun z => (List.mem_cons.mp z).elim hnl hnf
  have hL : LamV X.prog X.w X.K X.mg X.base (kl + 1) (frs X.stack) f H2 s2.heap (fun E HZ Q' => HZ c' = some (LamX.CodeO c' (X.env.qual ++ "<lambda>")) ∧ tb E σ HZ Q') := by
    refine ⟨⟨_, _, _, _, _, _, _, _, hf2⟩, hn2, hfr, fun A outer s HZ Q' E hr' e0 u hcz => ?_⟩
    obtain ⟨hcz, ht⟩ := hcz
    have u0 := u
    obtain ⟨⟨oc, us', t', hoc, hdc, hvc⟩, _, _⟩ := e0.hok c' _ hcz
    have of1 : s.heap.get? f = some (lamO X params body scope pm c' ctv) := u.keep f _ hf2 hn2 hfr (by simp)
    refine PySem.W.kla_callFunE hr'.depth of1 rfl L.co L.gen rfl ⟨c', oc, us', t', rfl, hoc, hdc, hvc⟩ ?_
    rw [hbind]
    have hnl' : s.heap.NoLimit := e0.mod.nolimit.keeps fun b o e => (e0.bs b o e).1
    refine wpAny_pure (wpAny_newFunctionEnv (fun y hy => (L.own y hy).2) (fun y hy => absurd hy (by simp)) (fun h₁ hns hsb => ⟨hnl'.fresh _ hsb, ?_⟩) L.kind)
    have kp : ∀ b o, s.heap.get? b = some o → h₁.get? b = some o := fun b o e => hsb.extBut b o (Nat.ne_of_lt (Heap.lt_size e)) (Heap.get?_push_of_some _ e)
    have J := LamX.lam_start2 (E := E) (f := f) (c' := c') (tk := s.toks + ([] : List (Str × Value)).length) I2 L e0 hr'.hd u0 hns kp
    refine PySem.W.kla_codeExpr (wpAny_mono ((hbody A outer s HZ E f c' (hr'.deeper _)).run [] _ _ HZ Q' J ht) (fun v s' hq => ?_) fun e s' hq => hq)
    obtain ⟨w', H', J', rv, q⟩ := hq
    exact ⟨w', H', J'.os, J'.bare, J'.base, J'.hok, rv, q⟩
  refine thn (run_fnL (X := X) F hr hb I2 r hL q) fun u' s' hq => ?_
  obtain ⟨v, H3, I3, rv, q3⟩ := hq
  exact ⟨v, H3, inv_in I3, rv, q3⟩
end
section
variable {T : List (Addr × Str)} {q : Str} {i : Nat} {f c' : Addr} {tr : Addr → Addr → TS} {D : Ends} {σ : L2.St} {H : Hp} {Q : VK} {spl : (XK → Hp → VK → Prop) → Sp} {tb : XK → TE} {t : TA}
theorem i_lamS (hT : LamX.Tabs T H) (k : ∀ f c' H1, LamX.ExtN H H1 → LamX.Tabs T H1 → H1 c' = some (LamX.CodeO c' q) → tr f c' D (σ.set i (some (.ref f))) H1) : tLamS T q i tr D σ H := ⟨hT, k⟩
theorem i_fwdP (h : σ[i]? = some (some (.ref f))) (k : t σ H fun vs H1 => spl (fun E HZ Q' => HZ c' = some (LamX.CodeO c' q) ∧ tb E σ HZ Q') vs H1 Q E0) : tFwdP i f c' q spl tb t σ H Q := ⟨h, k⟩
end
end Eg

set_option Elab.async false
set_option linter.all false
set_option maxRecDepth 100000
set_option maxHeartbeats 4000000
/-! comprehensions with a test; lists counted, popped, repeated -/
namespace Eg
open PySem PySem.Spec PyProof.Rows L2 Rl SX
section
variable {K : PySem.W.Frag} {σ : L2.St} {H : Hp} {te : TE} {tt : TT} {Q : VK} {g : TG} {J : It} {n : Nat} {vs : List Nat}
theorem l_itF {G : Hp → Prop} {Y : Nat → Hp → V → Hp → Prop} (w : Walk J n G Y) (Pv : Addr → Nat → List V → Hp → Prop) (h0 : ∀ D, H D = none → Pv D 0 [] (upd H D (.lst []))) (hG : ∀ D i acc H', H D = none → i ≤ n → H' D = some (.lst acc) → Pv D i acc H' → G H')
    (hs : ∀ D i x acc H1 H', H D = none → i < n → H1 D = some (.lst acc) → Pv D i acc H1 → Y i H1 x H' → g x (wipe σ vs) H' fun σ2 H2 => wipe σ2 vs = wipe σ vs ∧ tt σ2 H2 fun b H3 =>
      if b = true then te σ2 H3 (fun y H4 => ∃ acc, H4 D = some (.lst acc) ∧ acc.length < sizeLine ∧ Pv D (i + 1) (acc ++ [y]) (upd H4 D (.lst (acc ++ [y])))) else ∃ acc, H3 D = some (.lst acc) ∧ Pv D (i + 1) acc H3)
    (hd : ∀ D acc H', H D = none → H' D = some (.lst acc) → Pv D n acc H' → Q (.ref D) H') : gLc J g tt te vs σ H Q := fun D hD => by
  -- the turns' own promises hold by weakening what stands behind them
  exact lc_it w (fun i H' => ∃ acc, H' D = some (.lst acc) ∧ Pv D i acc H') ⟨[], upd_same, h0 D hD⟩ (fun i H' hi ⟨acc, e, p⟩ => hG D i acc H' hD hi e p)
    (fun i x H1 H' hi ⟨acc, e, p⟩ y => by
      have h := hs D i x acc H1 H' hD hi e p y
      have ee : (fun (y : V) (H4 : Hp) => ∃ acc, H4 D = some (.lst acc) ∧ acc.length < sizeLine ∧ Pv D (i + 1) (acc ++ [y]) (upd H4 D (.lst (acc ++ [y])))) = fun (y : V) (H4 : Hp) => ∃ acc, H4 D = some (.lst acc) ∧ acc.length < sizeLine ∧ ∃ acc', (upd H4 D (.lst (acc ++ [y]))) D = some (.lst acc') ∧ Pv D (i + 1) acc' (upd H4 D (.lst (acc ++ [y]))) := by
        funext y H4
        refine propext ⟨fun ⟨acc, a, b, c⟩ => ⟨acc, a, b, _, upd_same, c⟩, fun ⟨acc, a, b, acc', c, d⟩ => ⟨acc, a, b, ?_⟩⟩
        rw [upd_same] at c
        cases c
        exact d
      rw [ee] at h
      exact h) (fun H' ⟨acc, e, p⟩ => hd D acc H' hD e p)
theorem g_countI {p : Addr} {ns : List Int} {k : Int} (h : SqL K H p (ns.map V.int)) (q : Q (.int (ns.count k : Nat)) H) : rCntI K (.ref p) [.int k] H Q := ⟨p, ns, k, rfl, rfl, h, q⟩
theorem g_allB {p : Addr} {bs : List Bool} (h : SqL K H p (bs.map V.bl)) (q : Q (.bl (bs.all id)) H) : rAll K [.ref p] H Q := ⟨p, bs, rfl, h, q⟩
theorem g_rep {p : Addr} {k : Nat} {xs : List V} (h : H p = some (.lst xs)) (hk : k < 2 ^ 62) (hz : xs.length * k ≤ sizeLine) (q : ∀ r H', H r = none → Same H H' → H' r = some (.lst (List.replicate k xs).flatten) → Q (.ref r) H') : rRep (.ref p) (.int (k : Int)) H Q :=
  ⟨p, k, xs, rfl, rfl, h, by omega, by omega, by rw [Int.toNat_natCast]; exact hz, fun r hr => q r _ hr (fun b u e => by rw [upd_ne (ne_of_none e hr)]; exact e) (by rw [Int.toNat_natCast]; exact upd_same)⟩
theorem g_minI {p : Addr} {ns : List Int} (h : SqL K H p (ns.map V.int)) (h0 : 0 < ns.length) (q : ∀ m, m ∈ ns → (∀ y, y ∈ ns → m ≤ y) → Q (.int m) H) : rMin K [.ref p] H Q := ⟨p, ns, rfl, h, h0, q⟩
theorem g_maxI {p : Addr} {ns : List Int} (h : SqL K H p (ns.map V.int)) (h0 : 0 < ns.length) (q : ∀ m, m ∈ ns → (∀ y, y ∈ ns → y ≤ m) → Q (.int m) H) : rMax K [.ref p] H Q := ⟨p, ns, rfl, h, h0, q⟩
end
end Eg

set_option Elab.async false
set_option linter.all false
set_option maxRecDepth 100000
set_option maxHeartbeats 4000000
/-! a method of a built-in type in a comprehension -/
namespace Eg
open PySem PySem.Spec PyProof.Rows L2 Rl SX
section
variable {X : Cx} {K : PySem.W.Frag} {o e : Expr} {es : List Expr} {to : TE} {t : TA} {name : Str} {apos cpos : Pos} {T id : String} {r : V → List V → Hp → VK → Prop}
theorem pe_bmX (hK : X.K = K) (pa : PlainAttrs T) (slot : Slot T name id) (hty : typeOf (.builtin id) = pure (.type "method_descriptor")) (hm : MtR X id r) (ho : PE X o to) (ha : PA X (e :: es) t)
    (hbase : attributeBase o name X.env (eval o X.env) = eval o X.env := by rfl)
    (hfew : ((backTo cpos (starEach (e :: es) X.env)).all (fun x => !x.1) && (backToKw cpos (keywordEach [] X.env)).all (fun x => x.1.isSome)
      && decide ((e :: es).length + ([] : List Keyword).length + (if ([] : List Keyword).isEmpty then 0 else 1) < 30)) = true := by rfl)
    (hline : (apos.endLine == cpos.line) = true := by rfl) (hs : starEach (e :: es) X.env = (false, eval e X.env) :: starEach es X.env := by rfl) (hplain : (backTo cpos (starEach es X.env)).any (·.1) = false := by rfl) :
    PE X (.Call (.Attribute o name apos) (e :: es) [] cpos) (tBM K T r to t) := by
  subst hK
  exact pe_bm pa slot hty hm ho ha hbase hfew hline hs hplain
def tIfT (t : TT) (ta tb : TT) : TT := fun σ H Q => t σ H fun c H1 => if c = true then ta σ H1 Q else tb σ H1 Q
theorem i_ifT {t ta tb : TT} {σ : L2.St} {H : Hp} {Q : Bool → Hp → Prop} (h : t σ H fun c H1 => if c = true then ta σ H1 Q else tb σ H1 Q) : tIfT t ta tb σ H Q := h
theorem pt_ifExp {tc ta tb : TT} {c a b : Expr} {pos : Pos} (hc : PT X c tc) (ha : PT X a ta) (hb : PT X b tb) : PT X (.IfExp c a b pos) (tIfT tc ta tb) := by
  refine ⟨fun pins s σ H Q I h => ?_⟩
  show wpAny _ _ (do if ← isTrue c X.env (eval c X.env) then isTrue a X.env (eval a X.env) else isTrue b X.env (eval b X.env)) _ _ s
  refine wpAny_bind (wpAny_mono (hc.run pins s σ H _ I h) (fun d s1 ⟨H1, I1, q1⟩ => ?_) fun _ _ x => x)
  cases d with
  | true => exact ha.run pins s1 σ H1 Q I1 q1
  | false => exact hb.run pins s1 σ H1 Q I1 q1
end
end Eg

set_option Elab.async false
set_option linter.all false
set_option maxRecDepth 100000
set_option maxHeartbeats 4000000
namespace L30
open PySem PySem.Spec PyProof.Rows L2 Rl Eg
def top (i : Nat) : Stmt := PySem.Challenge.pw_whoeverwins_k30_prizes_claims_and_the_fa.main.body.getD i (.Pass ⟨0, 0, 0, 0⟩)
abbrev st_BadLadder_init : Stmt := inClass (top 6) 0
abbrev n_BadLadder_init : List Str := ["self", "rung"]
theorem sc_BadLadder_init : FnScope n_BadLadder_init ["self", "rung"] (defScope st_BadLadder_init) := ⟨rfl, rfl, rfl, by decide +kernel, rfl, by decide +kernel, by decide +kernel⟩
abbrev st_BadTable_init : Stmt := inClass (top 7) 0
abbrev n_BadTable_init : List Str := ["self", "rung"]
theorem sc_BadTable_init : FnScope n_BadTable_init ["self", "rung"] (defScope st_BadTable_init) := ⟨rfl, rfl, rfl, by decide +kernel, rfl, by decide +kernel, by decide +kernel⟩
abbrev st_common : Stmt := top 16
abbrev n_common : List Str := ["a", "b", "high", "low"]
theorem sc_common : FnScope n_common ["a", "b"] (defScope st_common) := ⟨rfl, rfl, rfl, by decide +kernel, rfl, by decide +kernel, by decide +kernel⟩
abbrev st_fraction : Stmt := top 17
abbrev n_fraction : List Str := ["numerator", "denominator", "shared"]
theorem sc_fraction : FnScope n_fraction ["numerator", "denominator"] (defScope st_fraction) := ⟨rfl, rfl, rfl, by decide +kernel, rfl, by decide +kernel, by decide +kernel⟩
abbrev st_taken : Stmt := top 18
abbrev n_taken : List Str := ["one", "other"]
theorem sc_taken : FnScope n_taken ["one", "other"] (defScope st_taken) := ⟨rfl, rfl, rfl, by decide +kernel, rfl, by decide +kernel, by decide +kernel⟩
abbrev st_times : Stmt := top 19
abbrev n_times : List Str := ["number", "one"]
theorem sc_times : FnScope n_times ["number", "one"] (defScope st_times) := ⟨rfl, rfl, rfl, by decide +kernel, rfl, by decide +kernel, by decide +kernel⟩
abbrev st_less : Stmt := top 20
abbrev n_less : List Str := ["one", "other"]
theorem sc_less : FnScope n_less ["one", "other"] (defScope st_less) := ⟨rfl, rfl, rfl, by decide +kernel, rfl, by decide +kernel, by decide +kernel⟩
abbrev st_grown : Stmt := top 23
abbrev n_grown : List Str := ["lanes", "falls", "first", "charges", "row", "rung", "fall", "low"]
theorem sc_grown : FnScope n_grown ["lanes", "falls", "first", "charges"] (defScope st_grown) := ⟨rfl, rfl, rfl, by decide +kernel, rfl, by decide +kernel, by decide +kernel⟩
abbrev st_load_rows : Stmt := top 24
abbrev n_load_rows : List Str := ["lanes", "falls", "rungs", "a", "b"]
theorem sc_load_rows : FnScope n_load_rows ["lanes", "falls"] (defScope st_load_rows) := ⟨rfl, rfl, rfl, by decide +kernel, rfl, by decide +kernel, by decide +kernel⟩
abbrev st_head_row : Stmt := top 25
abbrev n_head_row : List Str := ["lanes", "falls", "_"]
theorem sc_head_row : FnScope n_head_row ["lanes", "falls"] (defScope st_head_row) := ⟨rfl, rfl, rfl, by decide +kernel, rfl, by decide +kernel, by decide +kernel⟩
abbrev st_worth_row : Stmt := top 26
abbrev n_worth_row : List Str := ["lanes", "falls", "_"]
theorem sc_worth_row : FnScope n_worth_row ["lanes", "falls"] (defScope st_worth_row) := ⟨rfl, rfl, rfl, by decide +kernel, rfl, by decide +kernel, by decide +kernel⟩
abbrev st_wrong_count : Stmt := top 28
abbrev n_wrong_count : List Str := ["counts", "rungs", "rung", "many"]
theorem sc_wrong_count : FnScope n_wrong_count ["counts", "rungs"] (defScope st_wrong_count) := ⟨rfl, rfl, rfl, by decide +kernel, rfl, by decide +kernel, by decide +kernel⟩
abbrev st_Prizes_init : Stmt := inClass (top 30) 0
abbrev n_Prizes_init : List Str := ["self", "ladder", "win", "lose", "wrong", "found", "row", "rung"]
theorem sc_Prizes_init : FnScope n_Prizes_init ["self", "ladder", "win", "lose"] (defScope st_Prizes_init) := ⟨rfl, rfl, rfl, by decide +kernel, rfl, by decide +kernel, by decide +kernel⟩
abbrev st_Prizes_ladder : Stmt := inClass (top 30) 1
abbrev n_Prizes_ladder : List Str := ["self"]
theorem sc_Prizes_ladder : FnScope n_Prizes_ladder ["self"] (defScope st_Prizes_ladder) := ⟨rfl, rfl, rfl, by decide +kernel, rfl, by decide +kernel, by decide +kernel⟩
abbrev st_Prizes_win : Stmt := inClass (top 30) 2
abbrev n_Prizes_win : List Str := ["self"]
theorem sc_Prizes_win : FnScope n_Prizes_win ["self"] (defScope st_Prizes_win) := ⟨rfl, rfl, rfl, by decide +kernel, rfl, by decide +kernel, by decide +kernel⟩
abbrev st_Prizes_lose : Stmt := inClass (top 30) 3
abbrev n_Prizes_lose : List Str := ["self"]
theorem sc_Prizes_lose : FnScope n_Prizes_lose ["self"] (defScope st_Prizes_lose) := ⟨rfl, rfl, rfl, by decide +kernel, rfl, by decide +kernel, by decide +kernel⟩
abbrev st_Prizes_per_meeting : Stmt := inClass (top 30) 4
abbrev n_Prizes_per_meeting : List Str := ["self", "a"]
theorem sc_Prizes_per_meeting : FnScope n_Prizes_per_meeting ["self", "a"] (defScope st_Prizes_per_meeting) := ⟨rfl, rfl, rfl, by decide +kernel, rfl, by decide +kernel, by decide +kernel⟩
abbrev st_Prizes_sums : Stmt := inClass (top 30) 5
abbrev n_Prizes_sums : List Str := ["self", "paid", "a"]
theorem sc_Prizes_sums : FnScope n_Prizes_sums ["self"] (defScope st_Prizes_sums) := ⟨rfl, rfl, rfl, by decide +kernel, rfl, by decide +kernel, by decide +kernel⟩
abbrev st_Prizes_claims : Stmt := inClass (top 30) 6
abbrev n_Prizes_claims : List Str := ["self", "entry", "rows", "heads", "worths", "many", "paid"]
theorem sc_Prizes_claims : FnScope n_Prizes_claims ["self", "entry"] (defScope st_Prizes_claims) := ⟨rfl, rfl, rfl, by decide +kernel, rfl, by decide +kernel, by decide +kernel⟩
abbrev st_Prizes_fair_entry : Stmt := inClass (top 30) 7
abbrev n_Prizes_fair_entry : List Str := ["self", "top", "heads"]
theorem sc_Prizes_fair_entry : FnScope n_Prizes_fair_entry ["self"] (defScope st_Prizes_fair_entry) := ⟨rfl, rfl, rfl, by decide +kernel, rfl, by decide +kernel, by decide +kernel⟩
abbrev st_Prizes_ruin_after : Stmt := inClass (top 30) 8
abbrev n_Prizes_ruin_after : List Str := ["self", "entry", "in_play", "fair", "most", "claim", "lack"]
theorem sc_Prizes_ruin_after : FnScope n_Prizes_ruin_after ["self", "entry", "in_play"] (defScope st_Prizes_ruin_after) := ⟨rfl, rfl, rfl, by decide +kernel, rfl, by decide +kernel, by decide +kernel⟩
abbrev st_bound : Stmt := top 34
abbrev n_bound : List Str := ["what", "number"]
theorem sc_bound : FnScope n_bound ["what", "number"] (defScope st_bound) := ⟨rfl, rfl, rfl, by decide +kernel, rfl, by decide +kernel, by decide +kernel⟩
abbrev st_wrong_rung : Stmt := top 36
abbrev n_wrong_rung : List Str := ["lanes", "falls", "rung", "fall", "highest"]
theorem sc_wrong_rung : FnScope n_wrong_rung ["lanes", "falls"] (defScope st_wrong_rung) := ⟨rfl, rfl, rfl, by decide +kernel, rfl, by decide +kernel, by decide +kernel⟩
abbrev st_Ladder_init : Stmt := inClass (top 37) 0
abbrev n_Ladder_init : List Str := ["self", "lanes", "falls", "returns", "wrong"]
theorem sc_Ladder_init : FnScope n_Ladder_init ["self", "lanes", "falls", "returns"] (defScope st_Ladder_init) := ⟨rfl, rfl, rfl, by decide +kernel, rfl, by decide +kernel, by decide +kernel⟩
abbrev st_Ladder_same_as : Stmt := inClass (top 37) 1
abbrev n_Ladder_same_as : List Str := ["self", "other"]
theorem sc_Ladder_same_as : FnScope n_Ladder_same_as ["self", "other"] (defScope st_Ladder_same_as) := ⟨rfl, rfl, rfl, by decide +kernel, rfl, by decide +kernel, by decide +kernel⟩
abbrev st_Ladder_lanes : Stmt := inClass (top 37) 2
abbrev n_Ladder_lanes : List Str := ["self"]
theorem sc_Ladder_lanes : FnScope n_Ladder_lanes ["self"] (defScope st_Ladder_lanes) := ⟨rfl, rfl, rfl, by decide +kernel, rfl, by decide +kernel, by decide +kernel⟩
abbrev st_Ladder_rungs : Stmt := inClass (top 37) 3
abbrev n_Ladder_rungs : List Str := ["self"]
theorem sc_Ladder_rungs : FnScope n_Ladder_rungs ["self"] (defScope st_Ladder_rungs) := ⟨rfl, rfl, rfl, by decide +kernel, rfl, by decide +kernel, by decide +kernel⟩
abbrev st_Ladder_falls : Stmt := inClass (top 37) 4
abbrev n_Ladder_falls : List Str := ["self"]
theorem sc_Ladder_falls : FnScope n_Ladder_falls ["self"] (defScope st_Ladder_falls) := ⟨rfl, rfl, rfl, by decide +kernel, rfl, by decide +kernel, by decide +kernel⟩
abbrev st_Ladder_returns : Stmt := inClass (top 37) 5
abbrev n_Ladder_returns : List Str := ["self"]
theorem sc_Ladder_returns : FnScope n_Ladder_returns ["self"] (defScope st_Ladder_returns) := ⟨rfl, rfl, rfl, by decide +kernel, rfl, by decide +kernel, by decide +kernel⟩
abbrev st_Ladder_check_rung : Stmt := inClass (top 37) 6
abbrev n_Ladder_check_rung : List Str := ["self", "rung"]
theorem sc_Ladder_check_rung : FnScope n_Ladder_check_rung ["self", "rung"] (defScope st_Ladder_check_rung) := ⟨rfl, rfl, rfl, by decide +kernel, rfl, by decide +kernel, by decide +kernel⟩
abbrev st_Ladder_check_place : Stmt := inClass (top 37) 7
abbrev n_Ladder_check_place : List Str := ["self", "place"]
theorem sc_Ladder_check_place : FnScope n_Ladder_check_place ["self", "place"] (defScope st_Ladder_check_place) := ⟨rfl, rfl, rfl, by decide +kernel, rfl, by decide +kernel, by decide +kernel⟩
abbrev st_Ladder_fall : Stmt := inClass (top 37) 8
abbrev n_Ladder_fall : List Str := ["self", "a"]
theorem sc_Ladder_fall : FnScope n_Ladder_fall ["self", "a"] (defScope st_Ladder_fall) := ⟨rfl, rfl, rfl, by decide +kernel, rfl, by decide +kernel, by decide +kernel⟩
abbrev st_Ladder_heads : Stmt := inClass (top 37) 12
abbrev n_Ladder_heads : List Str := ["self", "b"]
theorem sc_Ladder_heads : FnScope n_Ladder_heads ["self", "b"] (defScope st_Ladder_heads) := ⟨rfl, rfl, rfl, by decide +kernel, rfl, by decide +kernel, by decide +kernel⟩
abbrev st_Ladder_weights : Stmt := inClass (top 37) 14
abbrev n_Ladder_weights : List Str := ["self", "row"]
theorem sc_Ladder_weights : FnScope n_Ladder_weights ["self"] (defScope st_Ladder_weights) := ⟨rfl, rfl, rfl, by decide +kernel, rfl, by decide +kernel, by decide +kernel⟩
abbrev st_law_e_named : Stmt := top 39
abbrev n_law_e_named : List Str := ["raised", "found"]
theorem sc_law_e_named : FnScope n_law_e_named ["raised"] (defScope st_law_e_named) := ⟨rfl, rfl, rfl, by decide +kernel, rfl, by decide +kernel, by decide +kernel⟩
abbrev st_law_e_asked : Stmt := top 40
abbrev n_law_e_asked : List Str := ["call", "told", "raised"]
theorem sc_law_e_asked : FnScope n_law_e_asked ["call"] (defScope st_law_e_asked) := ⟨rfl, rfl, rfl, by decide +kernel, rfl, by decide +kernel, by decide +kernel⟩
abbrev st_law_e_refused : Stmt := top 41
abbrev n_law_e_refused : List Str := ["call", "due", "told"]
theorem sc_law_e_refused : FnScope n_law_e_refused ["call", "due"] (defScope st_law_e_refused) := ⟨rfl, rfl, rfl, by decide +kernel, rfl, by decide +kernel, by decide +kernel⟩
abbrev st_law_e_let : Stmt := top 42
abbrev n_law_e_let : List Str := ["call"]
theorem sc_law_e_let : FnScope n_law_e_let ["call"] (defScope st_law_e_let) := ⟨rfl, rfl, rfl, by decide +kernel, rfl, by decide +kernel, by decide +kernel⟩
abbrev st_law_e_falls : Stmt := top 43
abbrev n_law_e_falls : List Str := ["stock", "rungs", "kind", "falls", "rung"]
theorem sc_law_e_falls : FnScope n_law_e_falls ["stock", "rungs"] (defScope st_law_e_falls) := ⟨rfl, rfl, rfl, by decide +kernel, rfl, by decide +kernel, by decide +kernel⟩
abbrev st_law_e_ladder : Stmt := top 44
abbrev n_law_e_ladder : List Str := ["stock", "least", "most", "widest", "rungs", "lanes"]
theorem sc_law_e_ladder : FnScope n_law_e_ladder ["stock", "least", "most", "widest"] (defScope st_law_e_ladder) := ⟨rfl, rfl, rfl, by decide +kernel, rfl, by decide +kernel, by decide +kernel⟩
abbrev st_law_e_low : Stmt := top 45
abbrev n_law_e_low : List Str := ["row", "fall"]
theorem sc_law_e_low : FnScope n_law_e_low ["row", "fall"] (defScope st_law_e_low) := ⟨rfl, rfl, rfl, by decide +kernel, rfl, by decide +kernel, by decide +kernel⟩
abbrev st_law_e_loads : Stmt := top 46
abbrev n_law_e_loads : List Str := ["ladder", "lanes", "falls", "rows", "a", "row", "b"]
theorem sc_law_e_loads : FnScope n_law_e_loads ["ladder"] (defScope st_law_e_loads) := ⟨rfl, rfl, rfl, by decide +kernel, rfl, by decide +kernel, by decide +kernel⟩
abbrev st_law_e_heads : Stmt := top 47
abbrev n_law_e_heads : List Str := ["ladder", "lanes", "falls", "row", "b"]
theorem sc_law_e_heads : FnScope n_law_e_heads ["ladder"] (defScope st_law_e_heads) := ⟨rfl, rfl, rfl, by decide +kernel, rfl, by decide +kernel, by decide +kernel⟩
abbrev st_law_e_common : Stmt := top 48
abbrev n_law_e_common : List Str := ["a", "b", "high", "low", "left"]
theorem sc_law_e_common : FnScope n_law_e_common ["a", "b"] (defScope st_law_e_common) := ⟨rfl, rfl, rfl, by decide +kernel, rfl, by decide +kernel, by decide +kernel⟩
abbrev st_law_e_fraction : Stmt := top 49
abbrev n_law_e_fraction : List Str := ["top", "bottom", "shared"]
theorem sc_law_e_fraction : FnScope n_law_e_fraction ["top", "bottom"] (defScope st_law_e_fraction) := ⟨rfl, rfl, rfl, by decide +kernel, rfl, by decide +kernel, by decide +kernel⟩
abbrev st_law_stock : Stmt := top 50
abbrev n_law_stock : List Str := ["script", "at", "cell", "size", "small", "one"]
theorem sc_law_stock : FnScope n_law_stock ["script", "at"] (defScope st_law_stock) := ⟨rfl, rfl, rfl, by decide +kernel, rfl, by decide +kernel, by decide +kernel⟩
abbrev st_law_draw : Stmt := top 51
abbrev n_law_draw : List Str := ["stock", "many", "found"]
theorem sc_law_draw : FnScope n_law_draw ["stock", "many"] (defScope st_law_draw) := ⟨rfl, rfl, rfl, by decide +kernel, rfl, by decide +kernel, by decide +kernel⟩
abbrev st_law_matches : Stmt := top 52
abbrev n_law_matches : List Str := ["answer", "due", "at"]
theorem sc_law_matches : FnScope n_law_matches ["answer", "due"] (defScope st_law_matches) := ⟨rfl, rfl, rfl, by decide +kernel, rfl, by decide +kernel, by decide +kernel⟩
abbrev st_law_k30_paid : Stmt := top 53
abbrev n_law_k30_paid : List Str := ["plain", "win", "lose", "loads", "found", "b", "a"]
theorem sc_law_k30_paid : FnScope n_law_k30_paid ["plain", "win", "lose"] (defScope st_law_k30_paid) := ⟨rfl, rfl, rfl, by decide +kernel, rfl, by decide +kernel, by decide +kernel⟩
abbrev st_law_k30_claims : Stmt := top 54
abbrev n_law_k30_claims : List Str := ["plain", "sums", "entry", "heads", "b"]
theorem sc_law_k30_claims : FnScope n_law_k30_claims ["plain", "sums", "entry"] (defScope st_law_k30_claims) := ⟨rfl, rfl, rfl, by decide +kernel, rfl, by decide +kernel, by decide +kernel⟩
abbrev st_law_k30_fair : Stmt := top 55
abbrev n_law_k30_fair : List Str := ["plain", "sums", "heads", "top", "open_heads"]
theorem sc_law_k30_fair : FnScope n_law_k30_fair ["plain", "sums"] (defScope st_law_k30_fair) := ⟨rfl, rfl, rfl, by decide +kernel, rfl, by decide +kernel, by decide +kernel⟩
abbrev st_law_k30_tellers : Stmt := top 56
abbrev n_law_k30_tellers : List Str := ["prizes", "plain", "win", "lose", "sums", "paid", "a"]
theorem sc_law_k30_tellers : FnScope n_law_k30_tellers ["prizes", "plain", "win", "lose"] (defScope st_law_k30_tellers) := ⟨rfl, rfl, rfl, by decide +kernel, rfl, by decide +kernel, by decide +kernel⟩
abbrev st_law_k30_ruin : Stmt := top 57
abbrev n_law_k30_ruin : List Str := ["plain", "sums", "entry", "in_play", "fair", "claims", "most", "claim", "lack"]
theorem sc_law_k30_ruin : FnScope n_law_k30_ruin ["plain", "sums", "entry", "in_play"] (defScope st_law_k30_ruin) := ⟨rfl, rfl, rfl, by decide +kernel, rfl, by decide +kernel, by decide +kernel⟩
abbrev st_law_k30_entries : Stmt := top 58
abbrev n_law_k30_entries : List Str := ["stock", "prizes", "plain", "win", "lose", "sums", "fair", "entries", "entry", "in_play", "claim"]
theorem sc_law_k30_entries : FnScope n_law_k30_entries ["stock", "prizes", "plain", "win", "lose"] (defScope st_law_k30_entries) := ⟨rfl, rfl, rfl, by decide +kernel, rfl, by decide +kernel, by decide +kernel⟩
abbrev st_law_k30_refusals : Stmt := top 59
abbrev n_law_k30_refusals : List Str := ["stock", "ladder", "rungs", "turn", "rows", "side", "row", "fault", "rung", "call"]
theorem sc_law_k30_refusals : FnScope n_law_k30_refusals ["stock", "ladder", "rungs"] (defScope st_law_k30_refusals) := ⟨rfl, rfl, rfl, by decide +kernel, rfl, by decide +kernel, by decide +kernel⟩
abbrev st_law : Stmt := top 60
abbrev n_law : List Str := ["script", "stock", "plain", "rungs", "great", "win", "lose", "ladder", "handed", "prizes", "other", "turn", "told", "sums", "rung"]
theorem sc_law : FnScope n_law ["script"] (defScope st_law) := ⟨rfl, rfl, rfl, by decide +kernel, rfl, by decide +kernel, by decide +kernel⟩
structure Ad where
  a_Prizes : Addr
  a_Ladder : Addr
  a_LIMITS : Addr
  a_TOLD : Addr
  a_BadLadder : Addr
  a_BadTable : Addr
  a_WinsError : Addr
  a_TooMany : Addr
  a_BadDemand : Addr
  a_BadText : Addr
  a_BadSeason : Addr
  a_BadCode : Addr
  a_BadEvent : Addr
  a_BadFoe : Addr
  a_BadPaper : Addr
  a_BadDisk : Addr
  a_BadDeed : Addr
  c_law_k30_refusals : Addr
  p_law_k30_refusals : Addr
  c_law : Addr
  p_law : Addr
structure Txt (K : PySem.W.Frag) (w : World) (mg : Str → Option Value) (Z : Ad) : Prop where
  b_ValueError : mg "ValueError" = none
  b_abs : mg "abs" = none
  b_bool : mg "bool" = none
  b_enumerate : mg "enumerate" = none
  b_int : mg "int" = none
  b_isinstance : mg "isinstance" = none
  b_len : mg "len" = none
  b_list : mg "list" = none
  b_max : mg "max" = none
  b_min : mg "min" = none
  b_range : mg "range" = none
  b_reversed : mg "reversed" = none
  b_str : mg "str" = none
  b_sum : mg "sum" = none
  b_tuple : mg "tuple" = none
  b_zip : mg "zip" = none
  c_LIMITS : mg "LIMITS" = some (.ref Z.a_LIMITS)
  k_LIMITS_lines : KDct K w Z.a_LIMITS "lines" (.int 300)
  k_LIMITS_words : KDct K w Z.a_LIMITS "words" (.int 60)
  k_LIMITS_number : KDct K w Z.a_LIMITS "number" (.int 1000000000000000000000000000000)
  k_LIMITS_depth : KDct K w Z.a_LIMITS "depth" (.int 20)
  k_LIMITS_blocks : KDct K w Z.a_LIMITS "blocks" (.int 12)
  k_LIMITS_lanes : KDct K w Z.a_LIMITS "lanes" (.int 6)
  k_LIMITS_rungs : KDct K w Z.a_LIMITS "rungs" (.int 40)
  k_LIMITS_ways : KDct K w Z.a_LIMITS "ways" (.int 8)
  k_LIMITS_promises : KDct K w Z.a_LIMITS "promises" (.int 20)
  k_LIMITS_variables : KDct K w Z.a_LIMITS "variables" (.int 4)
  k_LIMITS_states : KDct K w Z.a_LIMITS "states" (.int 400)
  k_LIMITS_rows : KDct K w Z.a_LIMITS "rows" (.int 600)
  k_LIMITS_events : KDct K w Z.a_LIMITS "events" (.int 3000)
  k_LIMITS_meetings : KDct K w Z.a_LIMITS "meetings" (.int 3000)
  k_LIMITS_housemeetings : KDct K w Z.a_LIMITS "housemeetings" (.int 400)
  k_LIMITS_rounds : KDct K w Z.a_LIMITS "rounds" (.int 300)
  k_LIMITS_late : KDct K w Z.a_LIMITS "late" (.int 6)
  k_LIMITS_plan : KDct K w Z.a_LIMITS "plan" (.int 200)
  k_LIMITS_nodes : KDct K w Z.a_LIMITS "nodes" (.int 2000)
  k_LIMITS_players : KDct K w Z.a_LIMITS "players" (.int 60)
  k_LIMITS_log : KDct K w Z.a_LIMITS "log" (.int 2000)
  k_LIMITS_signs : KDct K w Z.a_LIMITS "signs" (.int 2000)
  c_OUT : ∃ t, mg "OUT" = some (.int (-1) t)
  c_TOLD : mg "TOLD" = some (.ref Z.a_TOLD)
  k_TOLD_blocks : KDct K w Z.a_TOLD "blocks" (.str "depth")
  k_TOLD_states : KDct K w Z.a_TOLD "states" (.str "variables")
  k_TOLD_housemeetings : KDct K w Z.a_TOLD "housemeetings" (.str "meetings")
  o_BadLadder : OexC K Z.a_BadLadder
  x_BadLadder : XfC K Z.a_BadLadder
  g_BadLadder : mg "BadLadder" = some (.ref Z.a_BadLadder)
  m_BadLadder : PySem.W.exmOne K (.ref Z.a_BadLadder) (.ref Z.a_BadLadder) = some true
  n_BadLadder_rung : PySem.W.findIn K (.ref Z.a_BadLadder) "rung" = some none
  o_BadTable : OexC K Z.a_BadTable
  x_BadTable : XfC K Z.a_BadTable
  g_BadTable : mg "BadTable" = some (.ref Z.a_BadTable)
  m_BadTable : PySem.W.exmOne K (.ref Z.a_BadTable) (.ref Z.a_BadTable) = some true
  n_BadTable_rung : PySem.W.findIn K (.ref Z.a_BadTable) "rung" = some none
  g_WinsError : mg "WinsError" = some (.ref Z.a_WinsError)
  wg_WinsError : PySem.W.specialIn K (.ref Z.a_WinsError) "__getattribute__" = some (some (.builtin "type.__getattribute__"))
  wr_WinsError : PySem.W.readsIn K Z.a_WinsError (.type "type") = true
  wv_WinsError : PySem.W.findCls K (.ref Z.a_WinsError) (.type "type") "__init__" = some (.val (.builtin "ValueError.__init__"))
  g_TooMany : mg "TooMany" = some (.ref Z.a_TooMany)
  g_BadDemand : mg "BadDemand" = some (.ref Z.a_BadDemand)
  g_BadText : mg "BadText" = some (.ref Z.a_BadText)
  g_BadSeason : mg "BadSeason" = some (.ref Z.a_BadSeason)
  g_BadCode : mg "BadCode" = some (.ref Z.a_BadCode)
  g_BadEvent : mg "BadEvent" = some (.ref Z.a_BadEvent)
  g_BadFoe : mg "BadFoe" = some (.ref Z.a_BadFoe)
  g_BadPaper : mg "BadPaper" = some (.ref Z.a_BadPaper)
  g_BadDisk : mg "BadDisk" = some (.ref Z.a_BadDisk)
  g_BadDeed : mg "BadDeed" = some (.ref Z.a_BadDeed)
  xi_BadLadder : XisC K Z.a_BadLadder
  ki_BadLadder_TooMany : PySem.W.kitOne K (.ref Z.a_BadLadder) (.ref Z.a_TooMany) = some false
  ki_BadLadder_BadLadder : PySem.W.kitOne K (.ref Z.a_BadLadder) (.ref Z.a_BadLadder) = some true
  ki_BadLadder_BadTable : PySem.W.kitOne K (.ref Z.a_BadLadder) (.ref Z.a_BadTable) = some false
  ki_BadLadder_BadDemand : PySem.W.kitOne K (.ref Z.a_BadLadder) (.ref Z.a_BadDemand) = some false
  ki_BadLadder_ValueError : PySem.W.kitOne K (.ref Z.a_BadLadder) (.type "ValueError") = some true
  ka_BadLadder_0 : PySem.W.kitAny K (.ref Z.a_BadLadder) [.ref Z.a_BadText, .ref Z.a_BadSeason, .ref Z.a_BadCode, .ref Z.a_BadEvent, .ref Z.a_BadFoe, .ref Z.a_BadPaper, .ref Z.a_BadDisk, .ref Z.a_BadDeed] = some false
  mm_BadLadder_WinsError : PySem.W.exmOne K (.ref Z.a_BadLadder) (.ref Z.a_WinsError) = some true
  xi_BadTable : XisC K Z.a_BadTable
  ki_BadTable_TooMany : PySem.W.kitOne K (.ref Z.a_BadTable) (.ref Z.a_TooMany) = some false
  ki_BadTable_BadLadder : PySem.W.kitOne K (.ref Z.a_BadTable) (.ref Z.a_BadLadder) = some false
  ki_BadTable_BadTable : PySem.W.kitOne K (.ref Z.a_BadTable) (.ref Z.a_BadTable) = some true
  ki_BadTable_BadDemand : PySem.W.kitOne K (.ref Z.a_BadTable) (.ref Z.a_BadDemand) = some false
  ki_BadTable_ValueError : PySem.W.kitOne K (.ref Z.a_BadTable) (.type "ValueError") = some true
  ka_BadTable_0 : PySem.W.kitAny K (.ref Z.a_BadTable) [.ref Z.a_BadText, .ref Z.a_BadSeason, .ref Z.a_BadCode, .ref Z.a_BadEvent, .ref Z.a_BadFoe, .ref Z.a_BadPaper, .ref Z.a_BadDisk, .ref Z.a_BadDeed] = some false
  mm_BadTable_WinsError : PySem.W.exmOne K (.ref Z.a_BadTable) (.ref Z.a_WinsError) = some true
  l_Prizes : Cls K Z.a_Prizes
  n_Prizes_ladder_kept : NoAttr K Z.a_Prizes "ladder_kept"
  n_Prizes_win_list : NoAttr K Z.a_Prizes "win_list"
  n_Prizes_lose_list : NoAttr K Z.a_Prizes "lose_list"
  l_Ladder : Cls K Z.a_Ladder
  n_Ladder_lanes_number : NoAttr K Z.a_Ladder "lanes_number"
  n_Ladder_falls_list : NoAttr K Z.a_Ladder "falls_list"
  n_Ladder_returns_kept : NoAttr K Z.a_Ladder "returns_kept"
  n_Ladder_loads_table : NoAttr K Z.a_Ladder "loads_table"
  n_Ladder_heads_list : NoAttr K Z.a_Ladder "heads_list"
  n_Ladder_worths_list : NoAttr K Z.a_Ladder "worths_list"
  f_BadLadder_init : ∃ f fd, Fun K "__init__" "BadLadder.__init__" st_BadLadder_init f fd ∧ PySem.W.findIn K (.ref Z.a_BadLadder) "__init__" = some (some (.ref f)) ∧ PySem.W.typeIn K (.ref f) = some (.type "function") ∧ Binds K fd ["self", "rung"] []
  f_BadTable_init : ∃ f fd, Fun K "__init__" "BadTable.__init__" st_BadTable_init f fd ∧ PySem.W.findIn K (.ref Z.a_BadTable) "__init__" = some (some (.ref f)) ∧ PySem.W.typeIn K (.ref f) = some (.type "function") ∧ Binds K fd ["self", "rung"] []
  f_common : ∃ f fd, Fun K "common" "common" st_common f fd ∧ mg "common" = some (.ref f) ∧ Binds K fd ["a", "b"] []
  f_fraction : ∃ f fd, Fun K "fraction" "fraction" st_fraction f fd ∧ mg "fraction" = some (.ref f) ∧ Binds K fd ["numerator", "denominator"] []
  f_taken : ∃ f fd, Fun K "taken" "taken" st_taken f fd ∧ mg "taken" = some (.ref f) ∧ Binds K fd ["one", "other"] []
  f_times : ∃ f fd, Fun K "times" "times" st_times f fd ∧ mg "times" = some (.ref f) ∧ Binds K fd ["number", "one"] []
  f_less : ∃ f fd, Fun K "less" "less" st_less f fd ∧ mg "less" = some (.ref f) ∧ Binds K fd ["one", "other"] []
  f_grown : ∃ f fd, Fun K "grown" "grown" st_grown f fd ∧ mg "grown" = some (.ref f) ∧ Binds K fd ["lanes", "falls", "first", "charges"] []
  f_load_rows : ∃ f fd, Fun K "load_rows" "load_rows" st_load_rows f fd ∧ mg "load_rows" = some (.ref f) ∧ Binds K fd ["lanes", "falls"] []
  f_head_row : ∃ f fd, Fun K "head_row" "head_row" st_head_row f fd ∧ mg "head_row" = some (.ref f) ∧ Binds K fd ["lanes", "falls"] []
  f_worth_row : ∃ f fd, Fun K "worth_row" "worth_row" st_worth_row f fd ∧ mg "worth_row" = some (.ref f) ∧ Binds K fd ["lanes", "falls"] []
  f_wrong_count : ∃ f fd, Fun K "wrong_count" "wrong_count" st_wrong_count f fd ∧ mg "wrong_count" = some (.ref f) ∧ Binds K fd ["counts", "rungs"] []
  f_Prizes_init : ∃ f fd, Fun K "__init__" "Prizes.__init__" st_Prizes_init f fd ∧ Mk K Z.a_Prizes f ∧ mg "Prizes" = some (.ref Z.a_Prizes) ∧ Binds K fd ["self", "ladder", "win", "lose"] []
  f_Prizes_ladder : ∃ f fd, Fun K "ladder" "Prizes.ladder" st_Prizes_ladder f fd ∧ Meth K Z.a_Prizes "ladder" f ∧ Binds K fd ["self"] []
  f_Prizes_win : ∃ f fd, Fun K "win" "Prizes.win" st_Prizes_win f fd ∧ Meth K Z.a_Prizes "win" f ∧ Binds K fd ["self"] []
  f_Prizes_lose : ∃ f fd, Fun K "lose" "Prizes.lose" st_Prizes_lose f fd ∧ Meth K Z.a_Prizes "lose" f ∧ Binds K fd ["self"] []
  f_Prizes_per_meeting : ∃ f fd, Fun K "per_meeting" "Prizes.per_meeting" st_Prizes_per_meeting f fd ∧ Meth K Z.a_Prizes "per_meeting" f ∧ Binds K fd ["self", "a"] []
  f_Prizes_sums : ∃ f fd, Fun K "sums" "Prizes.sums" st_Prizes_sums f fd ∧ Meth K Z.a_Prizes "sums" f ∧ Binds K fd ["self"] []
  f_Prizes_claims : ∃ f fd, Fun K "claims" "Prizes.claims" st_Prizes_claims f fd ∧ Meth K Z.a_Prizes "claims" f ∧ Binds K fd ["self", "entry"] []
  f_Prizes_fair_entry : ∃ f fd, Fun K "fair_entry" "Prizes.fair_entry" st_Prizes_fair_entry f fd ∧ Meth K Z.a_Prizes "fair_entry" f ∧ Binds K fd ["self"] []
  f_Prizes_ruin_after : ∃ f fd, Fun K "ruin_after" "Prizes.ruin_after" st_Prizes_ruin_after f fd ∧ Meth K Z.a_Prizes "ruin_after" f ∧ Binds K fd ["self", "entry", "in_play"] []
  f_bound : ∃ f fd, Fun K "bound" "bound" st_bound f fd ∧ mg "bound" = some (.ref f) ∧ Binds K fd ["what", "number"] []
  f_wrong_rung : ∃ f fd, Fun K "wrong_rung" "wrong_rung" st_wrong_rung f fd ∧ mg "wrong_rung" = some (.ref f) ∧ Binds K fd ["lanes", "falls"] []
  f_Ladder_init : ∃ f fd, Fun K "__init__" "Ladder.__init__" st_Ladder_init f fd ∧ Mk K Z.a_Ladder f ∧ mg "Ladder" = some (.ref Z.a_Ladder) ∧ Binds K fd ["self", "lanes", "falls", "returns"] []
  f_Ladder_same_as : ∃ f fd, Fun K "same_as" "Ladder.same_as" st_Ladder_same_as f fd ∧ Meth K Z.a_Ladder "same_as" f ∧ Binds K fd ["self", "other"] []
  f_Ladder_lanes : ∃ f fd, Fun K "lanes" "Ladder.lanes" st_Ladder_lanes f fd ∧ Meth K Z.a_Ladder "lanes" f ∧ Binds K fd ["self"] []
  f_Ladder_rungs : ∃ f fd, Fun K "rungs" "Ladder.rungs" st_Ladder_rungs f fd ∧ Meth K Z.a_Ladder "rungs" f ∧ Binds K fd ["self"] []
  f_Ladder_falls : ∃ f fd, Fun K "falls" "Ladder.falls" st_Ladder_falls f fd ∧ Meth K Z.a_Ladder "falls" f ∧ Binds K fd ["self"] []
  f_Ladder_returns : ∃ f fd, Fun K "returns" "Ladder.returns" st_Ladder_returns f fd ∧ Meth K Z.a_Ladder "returns" f ∧ Binds K fd ["self"] []
  f_Ladder_check_rung : ∃ f fd, Fun K "check_rung" "Ladder.check_rung" st_Ladder_check_rung f fd ∧ Meth K Z.a_Ladder "check_rung" f ∧ Binds K fd ["self", "rung"] []
  f_Ladder_check_place : ∃ f fd, Fun K "check_place" "Ladder.check_place" st_Ladder_check_place f fd ∧ Meth K Z.a_Ladder "check_place" f ∧ Binds K fd ["self", "place"] []
  f_Ladder_fall : ∃ f fd, Fun K "fall" "Ladder.fall" st_Ladder_fall f fd ∧ Meth K Z.a_Ladder "fall" f ∧ Binds K fd ["self", "a"] []
  f_Ladder_heads : ∃ f fd, Fun K "heads" "Ladder.heads" st_Ladder_heads f fd ∧ Meth K Z.a_Ladder "heads" f ∧ Binds K fd ["self", "b"] []
  f_Ladder_weights : ∃ f fd, Fun K "weights" "Ladder.weights" st_Ladder_weights f fd ∧ Meth K Z.a_Ladder "weights" f ∧ Binds K fd ["self"] []
  f_law_e_named : ∃ f fd, Fun K "_law_e_named" "_law_e_named" st_law_e_named f fd ∧ mg "_law_e_named" = some (.ref f) ∧ Binds K fd ["raised"] []
  f_law_e_asked : ∃ f fd, Fun K "_law_e_asked" "_law_e_asked" st_law_e_asked f fd ∧ mg "_law_e_asked" = some (.ref f) ∧ Binds K fd ["call"] []
  f_law_e_refused : ∃ f fd, Fun K "_law_e_refused" "_law_e_refused" st_law_e_refused f fd ∧ mg "_law_e_refused" = some (.ref f) ∧ Binds K fd ["call", "due"] []
  f_law_e_let : ∃ f fd, Fun K "_law_e_let" "_law_e_let" st_law_e_let f fd ∧ mg "_law_e_let" = some (.ref f) ∧ Binds K fd ["call"] []
  f_law_e_falls : ∃ f fd, Fun K "_law_e_falls" "_law_e_falls" st_law_e_falls f fd ∧ mg "_law_e_falls" = some (.ref f) ∧ Binds K fd ["stock", "rungs"] []
  f_law_e_ladder : ∃ f fd, Fun K "_law_e_ladder" "_law_e_ladder" st_law_e_ladder f fd ∧ mg "_law_e_ladder" = some (.ref f) ∧ Binds K fd ["stock", "least", "most", "widest"] []
  f_law_e_low : ∃ f fd, Fun K "_law_e_low" "_law_e_low" st_law_e_low f fd ∧ mg "_law_e_low" = some (.ref f) ∧ Binds K fd ["row", "fall"] []
  f_law_e_loads : ∃ f fd, Fun K "_law_e_loads" "_law_e_loads" st_law_e_loads f fd ∧ mg "_law_e_loads" = some (.ref f) ∧ Binds K fd ["ladder"] []
  f_law_e_heads : ∃ f fd, Fun K "_law_e_heads" "_law_e_heads" st_law_e_heads f fd ∧ mg "_law_e_heads" = some (.ref f) ∧ Binds K fd ["ladder"] []
  f_law_e_common : ∃ f fd, Fun K "_law_e_common" "_law_e_common" st_law_e_common f fd ∧ mg "_law_e_common" = some (.ref f) ∧ Binds K fd ["a", "b"] []
  f_law_e_fraction : ∃ f fd, Fun K "_law_e_fraction" "_law_e_fraction" st_law_e_fraction f fd ∧ mg "_law_e_fraction" = some (.ref f) ∧ Binds K fd ["top", "bottom"] []
  f_law_stock : ∃ f fd, Fun K "_law_stock" "_law_stock" st_law_stock f fd ∧ mg "_law_stock" = some (.ref f) ∧ Binds K fd ["script", "at"] []
  f_law_draw : ∃ f fd, Fun K "_law_draw" "_law_draw" st_law_draw f fd ∧ mg "_law_draw" = some (.ref f) ∧ Binds K fd ["stock", "many"] []
  f_law_matches : ∃ f fd, Fun K "_law_matches" "_law_matches" st_law_matches f fd ∧ mg "_law_matches" = some (.ref f) ∧ Binds K fd ["answer", "due"] []
  f_law_k30_paid : ∃ f fd, Fun K "_law_k30_paid" "_law_k30_paid" st_law_k30_paid f fd ∧ mg "_law_k30_paid" = some (.ref f) ∧ Binds K fd ["plain", "win", "lose"] []
  f_law_k30_claims : ∃ f fd, Fun K "_law_k30_claims" "_law_k30_claims" st_law_k30_claims f fd ∧ mg "_law_k30_claims" = some (.ref f) ∧ Binds K fd ["plain", "sums", "entry"] []
  f_law_k30_fair : ∃ f fd, Fun K "_law_k30_fair" "_law_k30_fair" st_law_k30_fair f fd ∧ mg "_law_k30_fair" = some (.ref f) ∧ Binds K fd ["plain", "sums"] []
  f_law_k30_tellers : ∃ f fd, Fun K "_law_k30_tellers" "_law_k30_tellers" st_law_k30_tellers f fd ∧ mg "_law_k30_tellers" = some (.ref f) ∧ Binds K fd ["prizes", "plain", "win", "lose"] []
  f_law_k30_ruin : ∃ f fd, Fun K "_law_k30_ruin" "_law_k30_ruin" st_law_k30_ruin f fd ∧ mg "_law_k30_ruin" = some (.ref f) ∧ Binds K fd ["plain", "sums", "entry", "in_play"] []
  f_law_k30_entries : ∃ f fd, Fun K "_law_k30_entries" "_law_k30_entries" st_law_k30_entries f fd ∧ mg "_law_k30_entries" = some (.ref f) ∧ Binds K fd ["stock", "prizes", "plain", "win", "lose"] []
  f_law_k30_refusals : ∃ f fd, Fun K "_law_k30_refusals" "_law_k30_refusals" st_law_k30_refusals f fd ∧ fd.code = .ref Z.c_law_k30_refusals ∧ mg "_law_k30_refusals" = some (.ref f) ∧ Binds K fd ["stock", "ladder", "rungs"] []
  f_law : ∃ f fd, Fun K "law" "law" st_law f fd ∧ fd.code = .ref Z.c_law ∧ mg "law" = some (.ref f) ∧ Binds K fd ["script"] []
def tabs (Z : Ad) : List (Addr × Str) := [(Z.p_law_k30_refusals, lq "_law_k30_refusals"), (Z.p_law, lq "law")]
structure Bas (Z : Ad) (mg : Str → Option Value) (base : Heap) : Prop where
  b_law_k30_refusals : LamX.TabB base mg Z.c_law_k30_refusals Z.p_law_k30_refusals
  b_law : LamX.TabB base mg Z.c_law Z.p_law
  ne_law_law_k30_refusals : Z.p_law ≠ Z.p_law_k30_refusals
theorem tabs_law_k30_refusals (Z : Ad) : (Z.p_law_k30_refusals, lq "_law_k30_refusals") ∈ tabs Z := by simp [tabs]
theorem tabu_law_k30_refusals {Z : Ad} {mg : Str → Option Value} {base : Heap} (B : Bas Z mg base) : ∀ p ∈ tabs Z, p.1 = Z.p_law_k30_refusals → p.2 = lq "_law_k30_refusals" := by
  intro p hp e
  simp only [tabs, List.mem_cons, List.not_mem_nil, or_false] at hp
  rcases hp with rfl | rfl
  · rfl
  · exact absurd e B.ne_law_law_k30_refusals
theorem tabs_law (Z : Ad) : (Z.p_law, lq "law") ∈ tabs Z := by simp [tabs]
theorem tabu_law {Z : Ad} {mg : Str → Option Value} {base : Heap} (B : Bas Z mg base) : ∀ p ∈ tabs Z, p.1 = Z.p_law → p.2 = lq "law" := by
  intro p hp e
  simp only [tabs, List.mem_cons, List.not_mem_nil, or_false] at hp
  rcases hp with rfl | rfl
  · exact absurd e.symm B.ne_law_law_k30_refusals
  · rfl
end L30

set_option Elab.async false
set_option linter.all false
set_option maxRecDepth 100000
set_option maxHeartbeats 4000000
/-! ladders: weights, slack, the rows from the top -/
namespace Ld
/-- sums over the first n -/
def sm (f : Nat → Int) : Nat → Int
  | 0 => 0
  | n + 1 => sm f n + f n
theorem sm_congr {f g : Nat → Int} : ∀ {n : Nat}, (∀ i, i < n → f i = g i) → sm f n = sm g n
  | 0, _ => rfl
  | n + 1, h => by rw [sm, sm, sm_congr fun i hi => h i (by omega), h n (by omega)]
theorem sm_add (f g : Nat → Int) : ∀ n, sm (fun i => f i + g i) n = sm f n + sm g n
  | 0 => rfl
  | n + 1 => by rw [sm, sm, sm, sm_add f g n]; omega
theorem sm_sub (f g : Nat → Int) : ∀ n, sm (fun i => f i - g i) n = sm f n - sm g n
  | 0 => rfl
  | n + 1 => by rw [sm, sm, sm, sm_sub f g n]; omega
theorem sm_mul (c : Int) (f : Nat → Int) : ∀ n, sm (fun i => c * f i) n = c * sm f n
  | 0 => by simp [sm]
  | n + 1 => by rw [sm, sm, sm_mul c f n, Int.mul_add]
theorem sm_zero : ∀ n, sm (fun _ => 0) n = 0
  | 0 => rfl
  | n + 1 => by rw [sm, sm_zero n]; rfl
/-- the sum of the one that is chosen -/
theorem sm_one (a : Nat) (x : Nat → Int) : ∀ n, sm (fun i => if i = a then x i else 0) n = if a < n then x a else 0
  | 0 => by simp [sm]
  | n + 1 => by
    rw [sm, sm_one a x n]
    by_cases h : n = a
    · subst h
      simp
    · by_cases h2 : a < n
      · rw [if_pos h2, if_neg h, if_pos (by omega)]; omega
      · rw [if_neg h2, if_neg h, if_neg (by omega)]; omega
theorem sm_swap (f : Nat → Nat → Int) (m : Nat) : ∀ n, sm (fun i => sm (fun j => f i j) m) n = sm (fun j => sm (fun i => f i j) n) m
  | 0 => by simp only [sm]; rw [sm_zero]
  | n + 1 => by
    simp only [sm]
    rw [sm_swap f m n, sm_add]
/-- what a fall finds -/
def lowV (v : Nat → Int) (f : Int) : Int := if f < 0 then 0 else v f.toNat
def grow (L : Int) (fs : Nat → Int) (x : Int) (ch : Nat → Int) : Nat → List Int
  | 0 => [x]
  | n + 1 => grow L fs x ch n ++ [L * (grow L fs x ch n).getD n 0 - (L - 1) * lowV (fun i => (grow L fs x ch n).getD i 0) (fs n) + ch n]
def gv (L : Int) (fs : Nat → Int) (x : Int) (ch : Nat → Int) (i : Nat) : Int := (grow L fs x ch i).getD i 0
theorem grow_len (L : Int) (fs : Nat → Int) (x : Int) (ch : Nat → Int) : ∀ n, (grow L fs x ch n).length = n + 1
  | 0 => rfl
  | n + 1 => by rw [grow, List.length_append, grow_len L fs x ch n]; rfl
theorem grow_get (L : Int) (fs : Nat → Int) (x : Int) (ch : Nat → Int) : ∀ n i, i ≤ n → (grow L fs x ch n).getD i 0 = gv L fs x ch i
  | 0, i, h => by
    have : i = 0 := by omega
    subst this
    rfl
  | n + 1, i, h => by
    by_cases e : i = n + 1
    · subst e; rfl
    · rw [← grow_get L fs x ch n i (by omega), grow, List.getD_eq_getElem?_getD, List.getD_eq_getElem?_getD, List.getElem?_append_left (by rw [grow_len]; omega)]
      exact List.getD_eq_getElem?_getD.symm
theorem gv_zero (L : Int) (fs : Nat → Int) (x : Int) (ch : Nat → Int) : gv L fs x ch 0 = x := rfl
theorem gv_succ {L : Int} {fs : Nat → Int} {x : Int} {ch : Nat → Int} {n : Nat} (h : fs n ≤ n) : gv L fs x ch (n + 1) = L * gv L fs x ch n - (L - 1) * lowV (gv L fs x ch) (fs n) + ch n := by
  have e : gv L fs x ch (n + 1) = (grow L fs x ch (n + 1)).getD (n + 1) 0 := rfl
  rw [e, grow, List.getD_eq_getElem?_getD, List.getElem?_append_right (by rw [grow_len]; omega), grow_len, Nat.sub_self, List.getElem?_cons_zero, Option.getD_some]
  rw [grow_get L fs x ch n n (Nat.le_refl _)]
  have z : lowV (fun i => (grow L fs x ch n).getD i 0) (fs n) = lowV (gv L fs x ch) (fs n) := by
    unfold lowV
    split
    · rfl
    · exact grow_get L fs x ch n _ (by omega)
  rw [z]
/-- the falls that are right -/
def OkF (fs : Nat → Int) : Prop := ∀ i, -1 ≤ fs i ∧ fs i ≤ i ∧ (0 < i → fs i ≤ (i : Int) - 1)
def dl (a b : Nat) : Int := if b = a then 1 else 0
/-- loads and heads -/
def ld (L : Int) (fs : Nat → Int) (a b : Nat) : Int := gv L fs 0 (dl a) b
def hd (L : Int) (fs : Nat → Int) (b : Nat) : Int := gv L fs 1 (fun _ => 0) b
theorem ld_zero {L : Int} {fs : Nat → Int} (ok : OkF fs) {a : Nat} : ∀ b, b ≤ a → ld L fs a b = 0 := by
  intro b
  induction b using Nat.strongRecOn with
  | _ b ih =>
    intro hb
    cases b with
    | zero => rfl
    | succ n =>
      show gv L fs 0 (dl a) (n + 1) = 0
      rw [gv_succ (ok n).2.1]
      have h1 : gv L fs 0 (dl a) n = 0 := ih n (by omega) (by omega)
      have h2 : lowV (gv L fs 0 (dl a)) (fs n) = 0 := by
        unfold lowV
        have := ok n
        split
        · rfl
        · exact ih _ (by omega) (by omega)
      rw [h1, h2]
      simp [dl]
      omega
theorem ld_succ {L : Int} {fs : Nat → Int} (ok : OkF fs) (a n : Nat) : ld L fs a (n + 1) = L * ld L fs a n - (L - 1) * lowV (ld L fs a) (fs n) + dl a n := gv_succ (ok n).2.1
theorem hd_succ {L : Int} {fs : Nat → Int} (ok : OkF fs) (n : Nat) : hd L fs (n + 1) = L * hd L fs n - (L - 1) * lowV (hd L fs) (fs n) := by
  have := gv_succ (L := L) (x := 1) (ch := fun _ => 0) (ok n).2.1
  rw [Int.add_zero] at this
  exact this
theorem low_ld {L : Int} {fs : Nat → Int} (ok : OkF fs) {a n : Nat} (h : n ≤ a) : lowV (ld L fs a) (fs n) = 0 := by
  unfold lowV
  have := ok n
  split
  · rfl
  · exact ld_zero ok _ (by omega)
theorem ld_one {L : Int} {fs : Nat → Int} (ok : OkF fs) (a : Nat) : ld L fs a (a + 1) = 1 := by
  rw [ld_succ ok, ld_zero ok a (Nat.le_refl _), low_ld ok (Nat.le_refl _)]
  simp [dl]
/-- the row ahead of the rung a's own -/
def pr (L : Int) (fs : Nat → Int) (a b : Nat) : Int := if a = 0 then hd L fs b else ld L fs (a - 1) b
theorem lowV_add (v w : Nat → Int) (f : Int) : lowV (fun b => v b + w b) f = lowV v f + lowV w f := by unfold lowV; split <;> simp
theorem lowV_sub (v w : Nat → Int) (f : Int) : lowV (fun b => v b - w b) f = lowV v f - lowV w f := by unfold lowV; split <;> simp
theorem lowV_mul (c : Int) (v : Nat → Int) (f : Int) : lowV (fun b => c * v b) f = c * lowV v f := by unfold lowV; split <;> simp
theorem lowV_sm (v : Nat → Nat → Int) (f : Int) (k : Nat) : lowV (fun b => sm (fun e => v e b) k) f = sm (fun e => lowV (v e) f) k := by
  unfold lowV
  split
  · rw [sm_zero]
  · rfl
theorem lowV_congr {v w : Nat → Int} {f : Int} (h : ∀ i : Nat, (i : Int) = f → v i = w i) : lowV v f = lowV w f := by
  unfold lowV
  split
  · rfl
  · exact h _ (by omega)
/-- the row ahead, told by the own one and the rows of the rungs that fall there -/
theorem pr_eq {L : Int} {fs : Nat → Int} (ok : OkF fs) {a k : Nat} (ha : a < k) : ∀ b, b ≤ k → pr L fs a b = dl a b + L * ld L fs a b - (L - 1) * sm (fun e => if fs e = a then ld L fs e b else 0) k := by
  intro b
  induction b using Nat.strongRecOn with
  | _ b ih =>
    intro hb
    cases b with
    | zero =>
      rw [ld_zero ok 0 (by omega), sm_congr (g := fun _ => 0) (fun i _ => by rw [ld_zero ok 0 (by omega)]; simp), sm_zero]
      unfold pr dl
      by_cases h : a = 0
      · rw [if_pos h, if_pos h.symm]; show (1 : Int) = _; simp
      · rw [if_neg h, if_neg (by omega), ld_zero ok 0 (by omega)]; simp
    | succ n =>
      have i1 := ih n (by omega) (by omega)
      have i2 : lowV (pr L fs a) (fs n) = lowV (fun b => dl a b + L * ld L fs a b - (L - 1) * sm (fun e => if fs e = a then ld L fs e b else 0) k) (fs n) :=
        lowV_congr fun i hi => ih i (by have := (ok n).2.1; omega) (by have := (ok n).2.1; omega)
      have e1 : pr L fs a (n + 1) = L * pr L fs a n - (L - 1) * lowV (pr L fs a) (fs n) + (if a = n + 1 then 1 else 0) := by
        unfold pr
        by_cases h : a = 0
        · simp only [h, if_true]
          rw [hd_succ ok]
          have : ¬ 0 = n + 1 := by omega
          rw [if_neg this]
          show _ = L * hd L fs n - (L - 1) * lowV (hd L fs) (fs n) + 0
          omega
        · simp only [if_neg h]
          rw [ld_succ ok]
          congr 1
          unfold dl
          by_cases h2 : a = n + 1
          · rw [if_pos h2, if_pos (by omega)]
          · rw [if_neg h2, if_neg (by omega)]
      have e2 : sm (fun e => if fs e = a then ld L fs e (n + 1) else 0) k = L * sm (fun e => if fs e = a then ld L fs e n else 0) k - (L - 1) * sm (fun e => lowV (fun b => if fs e = a then ld L fs e b else 0) (fs n)) k + (if fs n = a then 1 else 0) := by
        rw [← sm_mul, ← sm_mul, ← sm_sub]
        have : (if fs n = (a : Int) then (1 : Int) else 0) = sm (fun e => if e = n then (if fs e = (a : Int) then 1 else 0) else 0) k := by
          rw [sm_one n (fun e => if fs e = (a : Int) then 1 else 0), if_pos (show n < k by omega)]
        rw [this, ← sm_add]
        refine sm_congr fun e _ => ?_
        by_cases h : fs e = a
        · simp only [if_pos h]
          rw [ld_succ ok]
          congr 1
          unfold dl
          by_cases h2 : n = e
          · subst h2; simp
          · rw [if_neg h2, if_neg (fun z => h2 z.symm)]
        · simp only [if_neg h]
          have : lowV (fun _ => (0 : Int)) (fs n) = 0 := by unfold lowV; split <;> rfl
          rw [this]
          simp
      have e3 : lowV (dl a) (fs n) = if fs n = a then 1 else 0 := by
        unfold lowV dl
        have := (ok n).1
        by_cases h : fs n < 0
        · rw [if_pos h, if_neg (by omega)]
        · rw [if_neg h]
          by_cases h2 : fs n = a
          · rw [if_pos h2, if_pos (by omega)]
          · rw [if_neg h2, if_neg (by omega)]
      rw [lowV_sub, lowV_add, lowV_mul, lowV_mul, lowV_sm, e3] at i2
      rw [e1, i1, i2, e2, ld_succ ok]
      have hd1 : dl a (n + 1) = if a = n + 1 then 1 else 0 := by
        unfold dl
        by_cases h : a = n + 1
        · rw [if_pos h, if_pos h.symm]
        · rw [if_neg h, if_neg (fun z => h z.symm)]
      rw [hd1]
      generalize sm (fun e => if fs e = (a : Int) then ld L fs e n else 0) k = S1
      generalize sm (fun e => lowV (fun b => if fs e = (a : Int) then ld L fs e b else 0) (fs n)) k = S2
      generalize (if fs n = (a : Int) then (1 : Int) else 0) = d1
      generalize (if a = n + 1 then (1 : Int) else 0) = d2
      generalize ld L fs a n = x
      generalize lowV (ld L fs a) (fs n) = y
      generalize dl a n = z
      grind
end Ld

set_option Elab.async false
set_option linter.all false
set_option maxRecDepth 100000
set_option maxHeartbeats 4000000
namespace Ld
/-- one entry of the demanded slack -/
def ent (k : Nat) (s : Nat → Int) (more lost : Int) (v : Nat → Int) (e : Int) : Int := sm (fun b => s b * v b) k + more * (v k - e) + lost * v (k - 1)
theorem ent_e (k : Nat) (s : Nat → Int) (more lost : Int) (v : Nat → Int) (e : Int) : ent k s more lost v e = ent k s more lost v 0 - more * e := by
  unfold ent
  generalize sm (fun b => s b * v b) k = x
  grind
theorem ent_congr {k : Nat} {s : Nat → Int} {more lost e : Int} {v w : Nat → Int} (h : ∀ b, b ≤ k → v b = w b) : ent k s more lost v e = ent k s more lost w e := by
  unfold ent
  rw [sm_congr (g := fun b => s b * w b) (fun i hi => by rw [h i (by omega)]), h k (by omega), h (k - 1) (by omega)]
theorem ent_lin (k : Nat) (s : Nat → Int) (more lost c d : Int) (x y z : Nat → Int) : ent k s more lost (fun b => x b + c * y b - d * z b) 0 = ent k s more lost x 0 + c * ent k s more lost y 0 - d * ent k s more lost z 0 := by
  unfold ent
  have h : sm (fun b => s b * (x b + c * y b - d * z b)) k = sm (fun b => s b * x b) k + c * sm (fun b => s b * y b) k - d * sm (fun b => s b * z b) k := by
    rw [← sm_mul, ← sm_mul, ← sm_add, ← sm_sub]
    exact sm_congr fun i _ => by grind
  rw [h]
  generalize sm (fun b => s b * x b) k = a1
  generalize sm (fun b => s b * y b) k = a2
  generalize sm (fun b => s b * z b) k = a3
  grind
theorem ent_sm (k : Nat) (s : Nat → Int) (more lost : Int) (P : Nat → Prop) [DecidablePred P] (v : Nat → Nat → Int) (m : Nat) : ent k s more lost (fun b => sm (fun e => if P e then v e b else 0) m) 0 = sm (fun e => if P e then ent k s more lost (v e) 0 else 0) m := by
  have h : ∀ e, (if P e then ent k s more lost (v e) 0 else 0) = (sm (fun b => s b * (if P e then v e b else 0)) k + more * (if P e then v e k else 0)) + lost * (if P e then v e (k - 1) else 0) := fun e => by
    by_cases he : P e
    · simp only [if_pos he]; unfold ent; grind
    · simp only [if_neg he, Int.mul_zero]; rw [sm_zero]; rfl
  rw [sm_congr fun e _ => h e, sm_add, sm_add, sm_mul, sm_mul, sm_swap]
  unfold ent
  rw [Int.sub_zero]
  congr 1
  congr 1
  exact sm_congr fun b _ => by rw [sm_mul]
theorem ent_dl {k a : Nat} (s : Nat → Int) (more lost : Int) (h : a < k) : ent k s more lost (dl a) 0 = s a + (if a = k - 1 then lost else 0) := by
  unfold ent
  rw [sm_congr (g := fun b => if b = a then s b else 0) (fun i _ => by unfold dl; split <;> simp), sm_one, if_pos h]
  unfold dl
  rw [if_neg (by omega)]
  by_cases e : a = k - 1
  · rw [if_pos e, if_pos e.symm]; simp
  · rw [if_neg e, if_neg (fun z => e z.symm)]; simp
/-- the demanded slack's entries, from heads on -/
def en (L : Int) (fs : Nat → Int) (k : Nat) (s : Nat → Int) (more lost ret : Int) (a : Nat) : Int := ent k s more lost (pr L fs a) (if a = 0 then ret else 0)
theorem pr_succ (L : Int) (fs : Nat → Int) (a : Nat) : pr L fs (a + 1) = ld L fs a := by
  funext b
  unfold pr
  rw [if_neg (by omega)]
  rfl
theorem pr_z (L : Int) (fs : Nat → Int) : pr L fs 0 = hd L fs := by
  funext b
  unfold pr
  rw [if_pos rfl]
theorem en_zero (L : Int) (fs : Nat → Int) (k : Nat) (s : Nat → Int) (more lost ret : Int) : en L fs k s more lost ret 0 = ent k s more lost (hd L fs) ret := by
  unfold en
  rw [pr_z, if_pos rfl]
theorem en_succ (L : Int) (fs : Nat → Int) (k : Nat) (s : Nat → Int) (more lost ret : Int) (a : Nat) : en L fs k s more lost ret (a + 1) = ent k s more lost (ld L fs a) 0 := by
  unfold en
  rw [pr_succ, if_neg (by omega)]
/-- the rows from the top -/
theorem en_row {L : Int} {fs : Nat → Int} (ok : OkF fs) {k a : Nat} (s : Nat → Int) (more lost ret : Int) (ha : a < k) :
    en L fs k s more lost ret a = s a + L * en L fs k s more lost ret (a + 1) - (L - 1) * sm (fun e => if fs e = a then en L fs k s more lost ret (e + 1) else 0) k + (if a = k - 1 then lost else 0) - (if a = 0 then more * ret else 0) := by
  have h1 : en L fs k s more lost ret a = ent k s more lost (pr L fs a) 0 - (if a = 0 then more * ret else 0) := by
    unfold en
    rw [ent_e]
    by_cases h : a = 0
    · simp only [if_pos h]
    · simp only [if_neg h, Int.mul_zero]
  rw [h1, ent_congr (fun b hb => pr_eq ok ha b hb), ent_lin, ent_dl _ _ _ ha, ent_sm k s more lost (fun e => fs e = (a : Int)) (ld L fs) k, en_succ]
  rw [sm_congr (f := fun e => if fs e = (a : Int) then en L fs k s more lost ret (e + 1) else 0) (g := fun e => if fs e = (a : Int) then ent k s more lost (ld L fs e) 0 else 0) (fun e _ => by simp only [en_succ])]
  generalize sm (fun e => if fs e = (a : Int) then ent k s more lost (ld L fs e) 0 else 0) k = x
  generalize (if a = k - 1 then lost else 0) = y
  generalize (if a = 0 then more * ret else 0) = z
  generalize L * ent k s more lost (ld L fs a) 0 = w
  generalize (L - 1) * x = v
  omega
theorem en_top {L : Int} {fs : Nat → Int} (ok : OkF fs) {k : Nat} (s : Nat → Int) (more lost ret : Int) (hk : 0 < k) : en L fs k s more lost ret k = more := by
  obtain ⟨j, rfl⟩ : ∃ j, k = j + 1 := ⟨k - 1, by omega⟩
  rw [en_succ]
  unfold ent
  rw [sm_congr (g := fun _ => 0) (fun i hi => by rw [ld_zero ok i (by omega)]; simp), sm_zero, ld_one ok, Nat.add_sub_cancel, ld_zero ok j (Nat.le_refl _)]
  simp
/-- sizes -/
theorem pow12 {a b : Nat} (h : a ≤ b) : 12 ^ a ≤ 12 ^ b := Nat.pow_le_pow_right (by decide) h
theorem gv_bd {L : Int} {fs : Nat → Int} {x : Int} {ch : Nat → Int} (ok : OkF fs) (h1 : 0 ≤ L) (h2 : L ≤ 6) (hx : x.natAbs ≤ 1) (hc : ∀ i, (ch i).natAbs ≤ 1) : ∀ n, (gv L fs x ch n).natAbs ≤ 12 ^ n := by
  intro n
  induction n using Nat.strongRecOn with
  | _ n ih =>
    cases n with
    | zero => exact hx
    | succ m =>
      rw [gv_succ (ok m).2.1]
      have i1 := ih m (by omega)
      have i2 : (lowV (gv L fs x ch) (fs m)).natAbs ≤ 12 ^ m := by
        unfold lowV
        have := ok m
        split
        · exact Nat.zero_le _
        · exact Nat.le_trans (ih _ (by omega)) (pow12 (by omega))
      have i3 := hc m
      have p1 : 1 ≤ 12 ^ m := Nat.one_le_pow _ _ (by decide)
      rw [Nat.pow_succ]
      generalize 12 ^ m = B at *
      generalize gv L fs x ch m = g at *
      generalize lowV (gv L fs x ch) (fs m) = l at *
      generalize ch m = c at *
      have q1 : (L * g).natAbs ≤ 6 * B := by rw [Int.natAbs_mul]; exact Nat.mul_le_mul (by omega) i1
      have q2 : ((L - 1) * l).natAbs ≤ 5 * B := by rw [Int.natAbs_mul]; exact Nat.mul_le_mul (by omega) i2
      generalize L * g = u at *
      generalize (L - 1) * l = v at *
      omega
theorem ld_bd {L : Int} {fs : Nat → Int} (ok : OkF fs) (h1 : 0 ≤ L) (h2 : L ≤ 6) (a b : Nat) (hb : b ≤ 41) : (ld L fs a b).natAbs < 2 ^ 150 :=
  Nat.lt_of_le_of_lt (gv_bd ok h1 h2 (by decide) (fun i => by unfold dl; split <;> decide) b) (Nat.lt_of_le_of_lt (pow12 hb) (by decide))
theorem hd_bd {L : Int} {fs : Nat → Int} (ok : OkF fs) (h1 : 0 ≤ L) (h2 : L ≤ 6) (b : Nat) (hb : b ≤ 41) : (hd L fs b).natAbs < 2 ^ 150 :=
  Nat.lt_of_le_of_lt (gv_bd ok h1 h2 (by decide) (fun i => by decide) b) (Nat.lt_of_le_of_lt (pow12 hb) (by decide))
theorem pr_bd {L : Int} {fs : Nat → Int} (ok : OkF fs) (h1 : 0 ≤ L) (h2 : L ≤ 6) (a b : Nat) (hb : b ≤ 41) : (pr L fs a b).natAbs < 2 ^ 150 := by
  unfold pr
  split
  · exact hd_bd ok h1 h2 b hb
  · exact ld_bd ok h1 h2 _ b hb
theorem sm_bd {f : Nat → Int} {B : Nat} : ∀ {n : Nat}, (∀ i, i < n → (f i).natAbs ≤ B) → (sm f n).natAbs ≤ n * B
  | 0, _ => by simp [sm]
  | n + 1, h => by
    have h1 := sm_bd (n := n) fun i hi => h i (by omega)
    have h2 := h n (by omega)
    rw [sm, Nat.add_mul, Nat.one_mul]
    omega
theorem en_bd {L : Int} {fs : Nat → Int} (ok : OkF fs) (h1 : 0 ≤ L) (h2 : L ≤ 6) {k : Nat} {s : Nat → Int} {more lost ret : Int} (hk : k ≤ 40) (hs : ∀ i, i < k → (s i).natAbs ≤ 2 ^ 10) (hm : more.natAbs ≤ 2 ^ 40) (hl : lost.natAbs ≤ 2 ^ 40) (hr : ret.natAbs ≤ 1) (a : Nat) :
    (en L fs k s more lost ret a).natAbs < 2 ^ 200 := by
  unfold en ent
  have b := fun i hi => pr_bd (a := a) ok h1 h2 i hi
  generalize pr L fs a = v at *
  have q1 : (sm (fun b => s b * v b) k).natAbs ≤ k * (2 ^ 10 * 2 ^ 150) := sm_bd fun i hi => by
    rw [Int.natAbs_mul]
    exact Nat.mul_le_mul (hs i hi) (Nat.le_of_lt (b i (by omega)))
  have q2 : (more * (v k - if a = 0 then ret else 0)).natAbs ≤ 2 ^ 40 * 2 ^ 151 := by
    rw [Int.natAbs_mul]
    refine Nat.mul_le_mul hm ?_
    have := b k (by omega)
    split <;> omega
  have q3 : (lost * v (k - 1)).natAbs ≤ 2 ^ 40 * 2 ^ 150 := by
    rw [Int.natAbs_mul]
    exact Nat.mul_le_mul hl (Nat.le_of_lt (b _ (by omega)))
  generalize sm (fun b => s b * v b) k = x at *
  generalize (more * (v k - if a = 0 then ret else 0)) = y at *
  generalize lost * v (k - 1) = z at *
  have q4 : k * (2 ^ 10 * 2 ^ 150) ≤ 40 * (2 ^ 10 * 2 ^ 150) := Nat.mul_le_mul_right _ hk
  omega
/-- the greatest entry below 0, less one -/
def brk (es : Nat → Int) : Nat → Option Int
  | 0 => none
  | n + 1 => if es n < 0 then some ((n : Int) - 1) else brk es n
theorem brk_some {es : Nat → Int} : ∀ {n : Nat} {b : Int}, brk es n = some b → -1 ≤ b ∧ b < (n : Int) - 1 ∧ (0 : Int) ≤ b + 1
  | 0, b, h => by cases h
  | n + 1, b, h => by
    unfold brk at h
    split at h
    · cases h; omega
    · have := brk_some h; omega
theorem brk_congr {es fs : Nat → Int} : ∀ {n : Nat}, (∀ i, i < n → es i = fs i) → brk es n = brk fs n
  | 0, _ => rfl
  | n + 1, h => by unfold brk; rw [h n (by omega), brk_congr fun i hi => h i (by omega)]
end Ld

set_option Elab.async false
set_option linter.all false
set_option maxRecDepth 100000
set_option maxHeartbeats 4000000
namespace Ld
open PySem PySem.Spec PyProof.Rows L2 Rl Eg SX
def fn (fs : List Int) : Nat → Int := fun i => fs.getD i 0
theorem fn_at {fs : List Int} {i : Nat} {f : Int} (h : fs[i]? = some f) : fn fs i = f := by unfold fn; rw [List.getD_eq_getElem?_getD, h]; rfl
def rng (n : Nat) (f : Nat → Int) : List V := (List.range n).map fun i => V.int (f i)
theorem rng_len {n : Nat} {f : Nat → Int} : (rng n f).length = n := by simp [rng]
theorem rng_at {n i : Nat} {f : Nat → Int} (h : i < n) : (rng n f)[i]? = some (.int (f i)) := by unfold rng; rw [List.getElem?_map, List.getElem?_range h]; rfl
theorem rng_succ (n : Nat) (f : Nat → Int) : rng (n + 1) f = rng n f ++ [.int (f n)] := by unfold rng; rw [List.range_succ, List.map_append]; rfl
theorem rng_fn (fs : List Int) : fs.map V.int = rng fs.length (fn fs) := by
  apply List.ext_getElem?
  intro i
  by_cases h : i < fs.length
  · rw [rng_at h, List.getElem?_map, List.getElem?_eq_getElem h, ← fn_at (List.getElem?_eq_getElem h)]; rfl
  · rw [List.getElem?_eq_none (by rw [List.length_map]; omega), List.getElem?_eq_none (by rw [rng_len]; omega)]
theorem rng_congr {n : Nat} {f g : Nat → Int} (h : ∀ i, i < n → f i = g i) : rng n f = rng n g := List.map_congr_left fun i hi => by rw [h i (List.mem_range.mp hi)]
/-- an own list of whole numbers -/
def IL (H : Hp) (p : Addr) (n : Nat) (f : Nat → Int) : Prop := H p = some (.lst (rng n f))
theorem IL.same {H H' : Hp} {p : Addr} {n : Nat} {f : Nat → Int} (h : IL H p n f) (e : Same H H') : IL H' p n f := e _ _ h
theorem IL.sq {K : PySem.W.Frag} {H : Hp} {p : Addr} {n : Nat} {f : Nat → Int} (h : IL H p n f) : SqL K H p (rng n f) := .of h
theorem IL.of {H : Hp} {p : Addr} {xs : List V} {n : Nat} {f : Nat → Int} (h : H p = some (.lst xs)) (e : xs = rng n f) : IL H p n f := by unfold IL; rw [h, e]
theorem cutV_from (xs : List V) (m : Nat) (h : m ≤ xs.length) : cutV xs (some (m : Int)) none = xs.drop m := by
  unfold cutV
  rw [HT.sIx_nat, HT.sIx_none, Nat.min_eq_left h, List.take_of_length_le (by rw [List.length_drop]; omega)]
theorem rng_drop (n m : Nat) (f : Nat → Int) : (rng n f).drop m = rng (n - m) (fun j => f (m + j)) := by
  apply List.ext_getElem?
  intro i
  rw [List.getElem?_drop]
  by_cases h : i < n - m
  · rw [rng_at h, rng_at (by omega)]
  · rw [List.getElem?_eq_none (by rw [rng_len]; omega), List.getElem?_eq_none (by rw [rng_len]; omega)]
theorem rng_cut {n m : Nat} {f : Nat → Int} (h : m ≤ n) : cutV (rng n f) (some (m : Int)) none = rng (n - m) (fun j => f (m + j)) := by
  rw [cutV_from _ _ (by rw [rng_len]; exact h), rng_drop]
theorem il_ne {H : Hp} {q D : Addr} {m : Nat} {f : Nat → Int} {qs : List Addr} (h : IL H q (m + 1) f) (e : H D = some (.lst (qs.map V.ref))) : q ≠ D := by
  intro z
  subst z
  unfold IL at h
  rw [h] at e
  injection e with e
  injection e with e
  have h0 := congrArg (fun l : List V => l[0]?) e
  rw [rng_at (by omega), List.getElem?_map] at h0
  cases hq : qs[0]? with
  | none => rw [hq] at h0; cases h0
  | some z => rw [hq] at h0; cases h0
theorem g_truL {K : PySem.W.Frag} {H : Hp} {p : Addr} {xs : List V} {Q : Bool → Hp → Prop} (h : SqL K H p xs) (k : Q (!xs.isEmpty) H) : gTru K (.ref p) H Q := ⟨_, .inl ⟨xs, h, rfl⟩, k⟩
end Ld

set_option Elab.async false
set_option linter.all false
set_option maxRecDepth 100000
set_option maxHeartbeats 4000000
/-! ladders: what grows, newcomers, crowns, prices -/
namespace Ld
theorem gv_mono {L : Int} {fs : Nat → Int} {x : Int} {ch : Nat → Int} (ok : OkF fs) (h1 : 1 ≤ L) (hx : 0 ≤ x) (hc : ∀ i, 0 ≤ ch i) : ∀ n, 0 ≤ gv L fs x ch n ∧ ∀ m, m ≤ n → gv L fs x ch m ≤ gv L fs x ch n := by
  intro n
  induction n with
  | zero => exact ⟨hx, fun m hm => by rw [show m = 0 by omega]; exact Int.le_refl _⟩
  | succ n ih =>
    obtain ⟨i1, i2⟩ := ih
    have hl : lowV (gv L fs x ch) (fs n) ≤ gv L fs x ch n := by
      unfold lowV
      have := ok n
      split
      · exact i1
      · exact i2 _ (by omega)
    have hs : gv L fs x ch n ≤ gv L fs x ch (n + 1) := by
      rw [gv_succ (ok n).2.1]
      have := hc n
      generalize lowV (gv L fs x ch) (fs n) = l at *
      generalize gv L fs x ch n = g at *
      have q : 0 ≤ (L - 1) * (g - l) := Int.mul_nonneg (by omega) (by omega)
      have e : L * g - (L - 1) * l = g + (L - 1) * (g - l) := by grind
      omega
    refine ⟨by omega, fun m hm => ?_⟩
    by_cases e : m = n + 1
    · rw [e]; exact Int.le_refl _
    · have := i2 m (by omega)
      omega
theorem ld_nn {L : Int} {fs : Nat → Int} (ok : OkF fs) (h1 : 1 ≤ L) (a b : Nat) : 0 ≤ ld L fs a b := (gv_mono ok h1 (by decide) (fun i => by unfold dl; split <;> decide) b).1
theorem ld_up {L : Int} {fs : Nat → Int} (ok : OkF fs) (h1 : 1 ≤ L) {a k : Nat} (h : a < k) : 1 ≤ ld L fs a k := by
  have h2 : gv L fs 0 (dl a) (a + 1) ≤ gv L fs 0 (dl a) k := (gv_mono ok h1 (by decide) (fun i => by unfold dl; split <;> decide) k).2 (a + 1) h
  have h3 : gv L fs 0 (dl a) (a + 1) = 1 := ld_one ok a
  show 1 ≤ gv L fs 0 (dl a) k
  omega
theorem hd_up {L : Int} {fs : Nat → Int} (ok : OkF fs) (h1 : 1 ≤ L) {m n : Nat} (h : m ≤ n) : hd L fs m ≤ hd L fs n := (gv_mono (x := 1) ok h1 (by decide) (fun i => by decide) n).2 m h
theorem hd_pos {L : Int} {fs : Nat → Int} (ok : OkF fs) (h1 : 1 ≤ L) (n : Nat) : 1 ≤ hd L fs n := by
  have := hd_up ok h1 (Nat.zero_le n)
  exact this
theorem hd_all {L : Int} {fs : Nat → Int} (ok : OkF fs) {k : Nat} (h : ∀ i, i < k → 0 ≤ fs i) : ∀ b, b ≤ k → hd L fs b = 1 := by
  intro b
  induction b using Nat.strongRecOn with
  | _ b ih =>
    intro hb
    cases b with
    | zero => rfl
    | succ n =>
      have h1 := ih n (by omega) (by omega)
      have h2 : lowV (hd L fs) (fs n) = 1 := by
        unfold lowV
        have := ok n
        have := h n (by omega)
        rw [if_neg (by omega)]
        exact ih _ (by omega) (by omega)
      rw [hd_succ ok, h1, h2]
      omega
theorem hd_out {L : Int} {fs : Nat → Int} (ok : OkF fs) (h2 : 2 ≤ L) {i k : Nat} (hi : i < k) (ho : fs i = -1) : 2 ≤ hd L fs k := by
  have h1 := hd_up (L := L) ok (by omega) (show i + 1 ≤ k by omega)
  have h3 := hd_pos (L := L) ok (by omega) i
  have h4 : lowV (hd L fs) (fs i) = 0 := by unfold lowV; rw [if_pos (by omega)]
  rw [hd_succ ok, h4, Int.mul_zero, Int.sub_zero] at h1
  have h5 : 2 * 1 ≤ L * hd L fs i := Int.mul_le_mul h2 h3 (by decide) (by omega)
  omega
theorem sm_nn {f : Nat → Int} : ∀ {n : Nat}, (∀ i, i < n → 0 ≤ f i) → 0 ≤ sm f n
  | 0, _ => by simp [sm]
  | n + 1, h => by
    have h1 := sm_nn (n := n) fun i hi => h i (by omega)
    have h2 := h n (by omega)
    rw [sm]
    omega
theorem wd_eq {L : Int} {fs : Nat → Int} (ok : OkF fs) {k : Nat} : ∀ b, b ≤ k → gv L fs 0 (fun _ => 1) b = sm (fun a => ld L fs a b) k := by
  intro b
  induction b using Nat.strongRecOn with
  | _ b ih =>
    intro hb
    cases b with
    | zero => rw [sm_congr (g := fun _ => 0) (fun i _ => ld_zero ok 0 (by omega)), sm_zero]; rfl
    | succ n =>
      have i1 := ih n (by omega) (by omega)
      have i2 : lowV (gv L fs 0 (fun _ => 1)) (fs n) = sm (fun a => lowV (ld L fs a) (fs n)) k := by
        rw [← lowV_sm]
        exact lowV_congr fun i hi => ih i (by have := (ok n).2.1; omega) (by have := (ok n).2.1; omega)
      have i3 : sm (fun a => dl a n) k = 1 := by
        rw [sm_congr (g := fun a => if a = n then 1 else 0) (fun i _ => by unfold dl; by_cases h : n = i; { rw [if_pos h, if_pos h.symm] }; { rw [if_neg h, if_neg (fun z => h z.symm)] }), sm_one n (fun _ => 1), if_pos (by omega)]
      rw [gv_succ (ok n).2.1, i1, i2, sm_congr (g := fun a => (L * ld L fs a n - (L - 1) * lowV (ld L fs a) (fs n)) + dl a n) (fun a _ => ld_succ ok a n), sm_add, sm_sub, sm_mul, sm_mul, i3]
theorem pr_0 (L : Int) (fs : Nat → Int) (ok : OkF fs) (a : Nat) : pr L fs a 0 = if a = 0 then 1 else 0 := by
  unfold pr
  split
  · rfl
  · exact ld_zero ok 0 (by omega)
theorem pr_nn {L : Int} {fs : Nat → Int} (ok : OkF fs) (h1 : 1 ≤ L) (a b : Nat) : 0 ≤ pr L fs a b := by
  unfold pr
  split
  · have := hd_pos ok h1 b; omega
  · exact ld_nn ok h1 _ _
/-- more players on rung 0 -/
theorem en_add {L : Int} {fs : Nat → Int} (ok : OkF fs) {k : Nat} (hk : 0 < k) {s s' : Nat → Int} {t : Int} (hs : ∀ b, b < k → s' b = s b - (if b = 0 then t else 0)) (more lost ret : Int) (a : Nat) :
    en L fs k s' more lost ret a = en L fs k s more lost ret a - (if a = 0 then t else 0) := by
  unfold en ent
  have h : sm (fun b => s' b * pr L fs a b) k = sm (fun b => s b * pr L fs a b) k - (if a = 0 then t else 0) := by
    rw [sm_congr (g := fun b => s b * pr L fs a b - (if b = 0 then t * pr L fs a b else 0)) (fun b hb => by rw [hs b hb]; split <;> grind), sm_sub, sm_one 0 (fun b => t * pr L fs a b), if_pos hk, pr_0 L fs ok]
    split <;> simp
  rw [h]
  omega
theorem en_nn {L : Int} {fs : Nat → Int} (ok : OkF fs) (h1 : 1 ≤ L) {k : Nat} {s : Nat → Int} {more lost ret : Int} (hs : ∀ b, b < k → 0 ≤ s b) (hm : 0 ≤ more) (hl : 0 ≤ lost) (hr : ret ≤ 1) (a : Nat) : 0 ≤ en L fs k s more lost ret a := by
  unfold en ent
  have q1 : 0 ≤ sm (fun b => s b * pr L fs a b) k := sm_nn fun i hi => Int.mul_nonneg (hs i hi) (pr_nn ok h1 _ _)
  have q2 : 0 ≤ more * (pr L fs a k - if a = 0 then ret else 0) := by
    refine Int.mul_nonneg hm ?_
    have := pr_nn ok h1 a k
    split
    · rename_i h
      subst h
      rw [pr_z]
      have := hd_pos ok h1 k
      omega
    · omega
  have q3 : 0 ≤ lost * pr L fs a (k - 1) := Int.mul_nonneg hl (pr_nn ok h1 _ _)
  omega
/-- what one crown more costs -/
def cst (L : Int) (fs : Nat → Int) (k : Nat) (ret : Int) (a : Nat) : Int := pr L fs a k - if a = 0 then ret else 0
theorem en_crown (L : Int) (fs : Nat → Int) (k : Nat) (s : Nat → Int) (more m lost ret : Int) (a : Nat) : en L fs k s (more + m) lost ret a = en L fs k s more lost ret a + m * cst L fs k ret a := by
  unfold en ent cst
  rw [Int.add_mul]
  omega
theorem en_lost (L : Int) (fs : Nat → Int) (k : Nat) (s : Nat → Int) (more lost m ret : Int) (a : Nat) : en L fs k s more (lost + m) ret a = en L fs k s more lost ret a + m * pr L fs a (k - 1) := by
  unfold en ent
  rw [Int.add_mul]
  omega
theorem cst_nn {L : Int} {fs : Nat → Int} (ok : OkF fs) (h1 : 1 ≤ L) {k : Nat} {ret : Int} (hr : ret ≤ 1) (a : Nat) : 0 ≤ cst L fs k ret a := by
  unfold cst
  have := pr_nn ok h1 a k
  split
  · rename_i h
    subst h
    rw [pr_z]
    have := hd_pos ok h1 k
    omega
  · omega
theorem cst_up {L : Int} {fs : Nat → Int} (ok : OkF fs) (h1 : 1 ≤ L) {k : Nat} {ret : Int} {a : Nat} (ha : 0 < a) (hk : a ≤ k) : 1 ≤ cst L fs k ret a := by
  unfold cst
  rw [if_neg (by omega)]
  unfold pr
  rw [if_neg (by omega)]
  have := ld_up (L := L) ok h1 (show a - 1 < k by omega)
  omega
/-- which entry is below 0 -/
theorem brk_none {es : Nat → Int} : ∀ {n : Nat}, brk es n = none ↔ ∀ i, i < n → 0 ≤ es i
  | 0 => ⟨fun _ _ h => by omega, fun _ => rfl⟩
  | n + 1 => by
    unfold brk
    have ih := brk_none (es := es) (n := n)
    by_cases h : es n < 0
    · rw [if_pos h]
      constructor
      · intro z
        cases z
      · intro z
        have := z n (by omega)
        omega
    · rw [if_neg h, ih]
      constructor
      · intro z i hi
        by_cases e : i = n
        · rw [e]; omega
        · exact z i (by omega)
      · intro z i hi
        exact z i (by omega)
theorem brk_neg {es : Nat → Int} {n i : Nat} (hi : i < n) (h : es i < 0) : ∃ b, brk es n = some b := by
  cases hb : brk es n with
  | none => have := brk_none.mp hb i hi; omega
  | some b => exact ⟨b, rfl⟩
theorem brk_one {es : Nat → Int} : ∀ {n : Nat}, 0 < n → es 0 < 0 → (∀ i, 0 < i → i < n → 0 ≤ es i) → brk es n = some (-1)
  | 0, h, _, _ => by omega
  | n + 1, _, h0, h => by
    unfold brk
    by_cases e : n = 0
    · subst e
      rw [if_pos h0]
      rfl
    · have := h n (by omega) (by omega)
      rw [if_neg (by omega)]
      exact brk_one (by omega) h0 fun i h1 h2 => h i h1 (by omega)
/-- the meetings left where all rungs above are full -/
theorem left_sum {L : Int} {fs : Nat → Int} (ok : OkF fs) {k : Nat} (s : Nat → Int) (more lost ret : Int) : sm (fun j => en L fs k s more lost ret (1 + j) + 1) k = (k : Int) + sm (fun b => s b * gv L fs 0 (fun _ => 1) b) k + more * gv L fs 0 (fun _ => 1) k + lost * gv L fs 0 (fun _ => 1) (k - 1) := by
  have h1 : ∀ n : Nat, sm (fun _ => (1 : Int)) n = n := fun n => by
    induction n with
    | zero => rfl
    | succ n ih => rw [sm, ih]; rfl
  rw [sm_add, h1, sm_congr (g := fun j => (sm (fun b => s b * ld L fs j b) k + more * ld L fs j k) + lost * ld L fs j (k - 1)) (fun j _ => by rw [Nat.add_comm, en_succ]; unfold ent; rw [Int.sub_zero]), sm_add, sm_add, sm_mul, sm_mul, sm_swap, ← wd_eq ok k (Nat.le_refl k), ← wd_eq ok (k - 1) (by omega)]
  rw [sm_congr (f := fun b => s b * gv L fs 0 (fun _ => 1) b) (g := fun b => sm (fun j => s b * ld L fs j b) k) (fun b hb => by rw [sm_mul, ← wd_eq ok b (by omega)])]
  omega
/-- rounding up -/
theorem ceil_spec {e c : Int} (he : e < 0) (hc : 0 < c) : 0 ≤ e + ((-1 - e) / c + 1) * c ∧ e + ((-1 - e) / c) * c < 0 ∧ 0 ≤ (-1 - e) / c := by
  have h1 := Int.emod_add_mul_ediv (-1 - e) c
  have h2 := Int.emod_nonneg (-1 - e) (show c ≠ 0 by omega)
  have h3 := Int.emod_lt_of_pos (-1 - e) hc
  have h4 : 0 ≤ (-1 - e) / c := Int.ediv_nonneg (by omega) (by omega)
  generalize (-1 - e) / c = q at *
  generalize (-1 - e) % c = r at *
  have h5 : (q + 1) * c = c * q + c := by grind
  have h6 : q * c = c * q := Int.mul_comm _ _
  rw [h5, h6]
  exact ⟨by omega, by omega, h4⟩
end Ld

section
open PySem PySem.Spec PyProof.Rows L2 Rl Eg SX
/-! my own short words for a walk -/
-- two addresses differ
local macro_rules | `(tactic| o_reads) => `(tactic| (first
  | assumption | (refine Ne.symm ?_; assumption) | exact ne_of_none (by o_shape) (by assumption) | exact Ne.symm (ne_of_none (by o_shape) (by assumption)) | exact ne_of (by o_shape) (by o_shape) (by intro z; cases z)))
-- what stands at an address
local macro_rules | `(tactic| o_shape) => `(tactic| (first
  | with_reducible assumption
  | with_reducible exact upd_same
  | ((with_reducible refine Eq.trans (upd_ne ?h1) ?h2); (case h1 => o_reads); (case h2 => o_shape))
  | ((with_reducible refine same_at (by assumption) ?_); o_shape)
  | ((with_reducible refine off_at (by assumption) ?h1 ?h2); (case h1 => o_reads); (case h2 => o_shape))
  | ((with_reducible refine offs_at (by assumption) ?h1 ?h2); (case h1 => w_left); (case h2 => o_shape))))
-- not in a list of places
local macro_rules | `(tactic| w_left) => `(tactic| (repeat (first | with_reducible exact nn_nil | ((with_reducible refine nn_cons ?h1 ?_); (case h1 => o_reads)))))
-- a field among fields
local macro_rules | `(tactic| w_fin) => `(tactic| (first | with_reducible exact fld_hd | with_reducible exact pf_nil | with_reducible exact pf_hd | ((with_reducible refine' fld_tl ?h1 ?h2); (case h1 => decide +kernel); (case h2 => w_fin)) | ((with_reducible refine' pf_tl ?h1 ?h2); (case h1 => decide +kernel); (case h2 => w_fin))))
-- a list, a tuple that stands
local macro_rules | `(tactic| o_fieldsN) => `(tactic| (first | with_reducible assumption | exact SqL.of (by o_shape) | exact SqT.of (by o_shape) | ((with_reducible refine Same.seq (‹Same _ _› : Same _ _) ?_); o_fieldsN) | ((with_reducible refine Same.tup (‹Same _ _› : Same _ _) ?_); o_fieldsN)))
-- sizes and arithmetic
local macro_rules | `(tactic| pre_facts) => `(tactic| (first | omega | ((with_reducible show (0 : Int) < _); decide) | decide | ((with_reducible show (0 : Int) < _); decide +kernel) | (rw [sizeLine_eq]; omega) | ((simp only [S_cat, S_len, List.length_append, List.length_cons, List.length_nil, List.length_map, sizeLine_eq]); omega)))
local macro_rules | `(tactic| pre_facts) => `(tactic| (first | (rw [Ld.rng_len]; omega) | ((simp only [Ld.rng_len, S_cat, S_len, List.length_append, List.length_cons, List.length_nil, List.length_map, sizeLine_eq]); omega)))
-- one step
local macro_rules | `(tactic| pv_eval) => `(tactic| (first
  | ((with_reducible refine' i_var ?h0 ?_); (case h0 => rfl))
  | with_reducible refine i_c ?_
  | with_reducible refine i_cons ?_
  | with_reducible refine i_nil ?_
  | with_reducible refine i_op ?_
  | with_reducible refine i_cb ?_
  | with_reducible refine j_asg ?_
  | ((with_reducible refine' i_name ?h0 ?_); (case h0 => rfl))
  | with_reducible refine i_seqN (fun _ _ => ?_)
  | with_reducible refine i_test ?_
  | with_reducible refine g_b ?_
  | with_reducible refine i_un ?_
  | with_reducible refine i_call ?_
  | with_reducible refine i_meth ?_
  | with_reducible refine i_callS ?_
  | with_reducible refine i_methS ?_
  | with_reducible refine i_fld ?_
  | with_reducible refine i_mk ?_
  | with_reducible refine i_if ?_
  | with_reducible refine i_sl ?_
  | with_reducible refine i_nopart ?_
  | with_reducible refine i_part ?_
  | with_reducible refine g_part ?_
  | with_reducible refine i_tB ?_
  | with_reducible refine i_tru ?_
  | with_reducible refine g_truB ?_
  | with_reducible refine i_and ?_
  | with_reducible refine i_or ?_
  | with_reducible refine i_not ?_
  | with_reducible refine i_andV ?_
  | with_reducible refine i_orV ?_
  | with_reducible refine i_notV ?_
  | with_reducible refine g_andV ?_
  | with_reducible refine g_orV ?_
  | with_reducible refine g_notV ?_
  | with_reducible refine j_next ?_
  | with_reducible refine j_drop ?_
  | with_reducible refine j_ret ?_
  | with_reducible refine j_retN ?_
  | with_reducible refine i_ifS ?_
  | ((with_reducible refine' j_aug ?h0 ?_); (case h0 => rfl))
  | with_reducible refine g_ipI ?_
  | with_reducible refine j_augS ?_
  | with_reducible refine i_sub ?_
  | with_reducible refine i_for ?_
  | with_reducible refine i_lc ?_
  | with_reducible refine i_iL ?_
  | with_reducible refine i_iT ?_
  | with_reducible refine i_rng0 ?_
  | ((with_reducible refine' g_rng0 ?h0 ?h1 ?_); (case h0 => o_shape); (case h1 => (refine ⟨?_, ?_, ?_, ?_⟩ <;> (pre_facts; done))))
  | with_reducible refine i_revR ?_
  | ((with_reducible refine' g_revR ?h0 ?_); (case h0 => (pre_facts; done)))
  | with_reducible refine g_uRng (fun _ _ _ _ _ => ?_)
  | with_reducible refine i_r1 ?_
  | with_reducible refine i_r2 ?_
  | with_reducible refine i_en ?_
  | with_reducible refine i_eS ?_
  | with_reducible refine i_keys ?_
  | ((with_reducible refine' g_keys ?h0 ?_); (case h0 => o_shape))
  | with_reducible refine i_iS ?_
  | with_reducible refine g_eS ?_
  | with_reducible refine g_iS ?_
  | with_reducible refine i_bm ?_
  | with_reducible refine i_bm0 ?_
  | with_reducible refine g_bmS ?_
  | with_reducible refine i_dget2 ?_
  | with_reducible refine i_dget ?_
  | with_reducible refine i_dput ?_
  | with_reducible refine i_sfld ?_
  | with_reducible refine i_gcons ?_
  | with_reducible refine i_gnil ?_
  | with_reducible refine i_par ?_
  | with_reducible refine i_chain ?_
  | with_reducible refine i_tupN ?_
  | with_reducible refine i_lstN ?_
  | with_reducible refine iteT ?_
  | with_reducible refine iteF ?_
  | with_reducible refine i_ve ?_
  | with_reducible refine i_ost ?_
  | with_reducible refine i_raise ?_
  | with_reducible refine j_makeS ?_
  | with_reducible refine i_xf ?_
  | with_reducible refine i_xfA ?_
  | ((with_reducible refine' i_fwdP ?h0 ?_); (case h0 => rfl))
  | with_reducible refine g_isB ?_
  | with_reducible refine g_notB ?_
  | with_reducible refine i_lstRg2 ?_
  | ((with_reducible refine' i_lamc ?h0 ?_); (case h0 => rfl))
  | ((with_reducible refine' i_fwd ?h0 ?_); (case h0 => rfl))
  | ((with_reducible refine' i_callE ?h0 ?_); (case h0 => rfl))
  | with_reducible refine iteNT ?_
  | with_reducible refine iteNF ?_
  | with_reducible refine g_I0 ?_
  | ((with_reducible refine' g_pow ?h0 ?_); (case h0 => exact ⟨by decide, by decide, by decide⟩))
  | ((with_reducible refine' g_I ?h0 ?_); (case h0 => (pre_facts; done)))
  | with_reducible refine g_neg ?_
  | with_reducible refine g_addI ?_
  | ((with_reducible refine' g_addS ?h0 ?_); (case h0 => (pre_facts; done)))
  | ((with_reducible refine' g_mul ?h0 ?_); (case h0 => first | exact .inl (.inl ⟨by decide, by decide⟩) | exact .inl (.inr ⟨by decide, by decide⟩) | exact .inr (by show _ + _ < _; decide +kernel) | (refine .inl (.inl ⟨?_, ?_⟩) <;> (pre_facts; done)) | (refine .inl (.inr ⟨?_, ?_⟩) <;> (pre_facts; done))))
  | ((with_reducible refine' g_div ?h0 ?_); (case h0 => (refine .inl ⟨?_, ?_⟩ <;> (pre_facts; done))))
  | with_reducible refine g_eqI ?_
  | with_reducible refine g_neI ?_
  | with_reducible refine g_eqS ?_
  | with_reducible refine g_neS ?_
  | with_reducible refine g_uInt ?_
  | with_reducible refine g_ord ?_
  | ((with_reducible refine' g_str ?h0 ?_); (case h0 => (pre_facts; done)))
  | with_reducible refine g_abs ?_
  | with_reducible refine g_max2 ?_
  | with_reducible refine g_min2 ?_
  | with_reducible refine g_count ?_
  | with_reducible refine g_isNN ?_
  | with_reducible refine g_noNN ?_
  | ((with_reducible refine' g_isNx ?h0 ?_); (case h0 => (intro z; cases z; done)))
  | ((with_reducible refine' g_noNx ?h0 ?_); (case h0 => (intro z; cases z; done)))
  | ((with_reducible refine' g_isi ?h0 ?h1 ?_); (case h0 => first | with_reducible exact .base (.int _) | with_reducible exact .base (.str _) | with_reducible exact .base (.bl _) | with_reducible exact .base .non | exact .base (.lst (by o_shape)) | exact .base (.tup (by o_shape))); (case h1 => first | with_reducible exact kb_bb | with_reducible exact kb_ii | with_reducible exact kb_ss | with_reducible exact kb_ll | with_reducible exact kb_tt | ((with_reducible refine kb_non _ ?_); decide) | ((with_reducible refine kb_bool _ ?_); decide) | ((with_reducible refine kb_int _ ?_); decide) | ((with_reducible refine kb_str _ ?_); decide) | ((with_reducible refine kb_list _ ?_); decide) | ((with_reducible refine kb_tuple _ ?_); decide)))
  | ((with_reducible refine' g_newT ?h0 (fun _ _ _ _ _ => ?_)); (case h0 => (pre_facts; done)))
  | ((with_reducible refine' g_newL ?h0 (fun _ _ _ _ _ => ?_)); (case h0 => (pre_facts; done)))
  | with_reducible refine i_dnew (fun _ _ _ _ _ => ?_)
  | ((with_reducible refine' g_fld ?h0 ?h1 ?h2 ?h3 ?_); (case h0 => o_shape); (case h1 => assumption); (case h2 => assumption); (case h3 => w_fin))
  | ((with_reducible refine' g_sfld ?h0 ?h1 ?h2 ?h3 ?h4 ?_); (case h0 => o_shape); (case h1 => assumption); (case h2 => assumption); (case h3 => (pre_facts; done)); (case h4 => w_fin))
  | ((with_reducible refine' g_meth ?h0 ?h1 ?_); (case h0 => o_shape); (case h1 => rfl))
  | ((with_reducible refine' g_methS ?h0 ?h1 ?_); (case h0 => o_shape); (case h1 => rfl))
  | ((with_reducible refine' g_dget2 ?h0 ?_); (case h0 => exact Rd.of (by o_shape)))
  | ((with_reducible refine' g_dg ?h0 ?_); (case h0 => exact Rd.of (by o_shape)))
  | ((with_reducible refine' g_dput ?h0 ?h1 ?_); (case h0 => o_shape); (case h1 => (pre_facts; done)))
  | ((with_reducible refine' g_ixL ?h0 ?h1 ?_); (case h0 => o_fieldsN); (case h1 => rfl))
  | ((with_reducible refine' g_ixLg ?h0 ?h1 ?_); (case h0 => o_fieldsN); (case h1 => rfl))
  | ((with_reducible refine' g_ixT ?h0 ?h1 ?_); (case h0 => o_fieldsN); (case h1 => rfl))
  | ((with_reducible refine' g_setL ?h0 ?h1 ?h2 ?_); (case h0 => o_shape); (case h1 => rfl); (case h2 => rfl))
  | ((with_reducible refine' g_lenL ?h0 ?_); (case h0 => o_fieldsN))
  | ((with_reducible refine' g_lenT ?h0 ?_); (case h0 => o_fieldsN))
  | ((with_reducible refine' g_lenS ?h0 ?_); (case h0 => (pre_facts; done)))
  | ((with_reducible refine' g_iL ?h0 ?_); (case h0 => o_fieldsN))
  | ((with_reducible refine' g_en ?h0 ?_); (case h0 => o_fieldsN))
  | ((with_reducible refine' g_r1 ?h0 ?_); (case h0 => (refine ⟨?_, ?_⟩ <;> (pre_facts; done))))
  | ((with_reducible refine' g_r2 ?h0 ?_); (case h0 => (refine ⟨?_, ?_, ?_, ?_⟩ <;> (pre_facts; done))))
  | ((with_reducible refine' g_bmL ?h0 ?_); (case h0 => o_fieldsN))
  | ((with_reducible refine' g_app ?h0 ?h1 ?_); (case h0 => o_shape); (case h1 => (pre_facts; done)))
  | ((with_reducible refine' g_sum ?h0 ?_); (case h0 => o_fieldsN))
  | ((with_reducible refine' g_list ?h0 (fun _ _ _ _ _ => ?_)); (case h0 => o_fieldsN))
  | ((with_reducible refine' g_slS ?h0 ?_); (case h0 => (pre_facts; done)))
  | ((with_reducible refine' g_slL' ?h0 (fun _ _ _ _ _ => ?_)); (case h0 => o_fieldsN))
  | ((with_reducible refine' i_gtup ?h0 ?h1 ?_); (case h0 => o_fieldsN); (case h1 => rfl))
  | ((with_reducible refine' i_unl ?h0 ?h1 ?_); (case h0 => o_fieldsN); (case h1 => rfl))
  | ((with_reducible refine' t_nx ?h0 ?_); (case h0 => assumption))))
local macro_rules | `(tactic| o_readsAll) => `(tactic| (repeat pv_eval))

namespace L30
section
variable {P : Program} {w : World} {K : PySem.W.Frag} {mg : Str → Option Value} {base : Heap} {Z : Ad}
def Stk (H : Hp) (a : Addr) : Prop := ∃ s0 s1 s2, H a = some (.lst [.int s0, .int s1, .int s2])
def sp_draw : Sp := fun vs H Q _ => ∃ a m, vs = [.ref a, .int m] ∧ 0 < m ∧ m < 2 ^ 200 ∧ Stk H a ∧ ∀ r H', 0 ≤ r → r < m → Stk H' a → Off a H H' → Q (.int r) H'
theorem d_law_draw (T : Txt K w mg Z) : Dfn P w K mg base 1 "_law_draw" ["stock", "many"] (sp_draw) := by
  obtain ⟨f, fd, F, hm, hb⟩ := T.f_law_draw
  refine ⟨f, fd, F.ok sc_law_draw (fun vs H Q E h => by first | (obtain ⟨rfl, _⟩ := h; rfl) | (obtain ⟨_, rfl, _⟩ := h; rfl) | (obtain ⟨_, _, rfl, _⟩ := h; rfl) | (obtain ⟨_, _, _, rfl, _⟩ := h; rfl) | (obtain ⟨_, _, _, _, rfl, _⟩ := h; rfl) | (obtain ⟨_, _, _, _, _, rfl, _⟩ := h; rfl) | (obtain ⟨_, _, _, _, _, _, rfl, _⟩ := h; rfl) | (obtain ⟨_, _, _, _, _, _, _, rfl, _⟩ := h; rfl) | (obtain ⟨_, _, _, _, _, _, _, _, rfl, _⟩ := h; rfl) | (obtain ⟨_, _, _, _, _, _, _, _, _, rfl, _⟩ := h; rfl) | (obtain ⟨_, _, _, _, _, _, _, _, _, _, rfl, _⟩ := h; rfl) | (obtain ⟨_, _, _, _, _, _, _, _, _, _, _, rfl, _⟩ := h; rfl) | (obtain ⟨_, _, _, _, _, _, _, _, _, _, _, _, rfl, _⟩ := h; rfl) | (obtain ⟨_, _, _, _, _, _, _, _, _, _, _, _, _, rfl, _⟩ := h; rfl) | (obtain ⟨_, _, _, _, _, _, _, _, _, _, _, _, _, _, rfl, _⟩ := h; rfl) | (obtain ⟨_, _, _, _, _, _, _, _, _, _, _, _, _, _, _, rfl, _⟩ := h; rfl) | (obtain ⟨_, _, _, _, _, _, _, _, _, _, _, _, _, _, _, _, rfl, _⟩ := h; rfl)) (fun cdv A outer s H vs Q E hr h => ?_), hm, F.kp, hb⟩
  obtain ⟨a, m, rfl, h0, h1, ⟨s0, s1, s2, hH⟩, k⟩ := h
  refine ⟨_, (pss_cons (ps_if (pt_cmpR op_gt (pe_ix ix_seq (pv 0) pe_int (fun _ _ => rfl)) pe_int (nomark _)) (pss_cons (ps_set (i := 2) sc_law_draw.nd rfl (.inl rfl) (pe_op op_mod (pe_callTy call_uInt (by rfl) T.b_int bt_int (pa_cons (pe_ix ix_seq (pv 0) pe_int (fun _ _ => rfl)) pa_nil)) (pv 1)))
      (pss_cons (ps_asg (pe_op op_uDiv (pe_ix ix_seq (pv 0) pe_int (fun _ _ => rfl)) (pv 1)) (pg_sub (pv 0) pe_int set_list))
      (pss_one (ps_ret (pv 2))))) pss_nil)
      (pss_cons (ps_augS (pv 0) pe_int get_list pe_int ip_add set_list)
      (pss_cons (ps_asg (pe_op op_mod (pe_callTy call_uInt (by rfl) T.b_int bt_int (pa_cons (pe_op op_uAdd (pe_op op_uMul (pe_ix ix_seq (pv 0) pe_int (fun _ _ => rfl)) pe_int) (pe_op op_uMul (pe_ix ix_seq (pv 0) pe_int (fun _ _ => rfl)) pe_int)) pa_nil)) pe_int) (pg_sub (pv 0) pe_int set_list))
      (pss_one (ps_ret (pe_op op_mod (pe_op op_uDiv (pe_op op_mod (pe_callTy call_uInt (by rfl) T.b_int bt_int (pa_cons (pe_op op_uAdd (pe_op op_uMul (pe_ix ix_seq (pv 0) pe_int (fun _ _ => rfl)) pe_int) (pe_op op_uMul (pe_ix ix_seq (pv 0) pe_int (fun _ _ => rfl)) pe_int)) pa_nil)) pe_int) pe_int) (pv 1))))))), ?_⟩
  try dsimp only [cxOf, Cx.nox, Cx.wish]
  show (_ : TS) _ [some _, some _, none] _
  o_readsAll
  have hmb : m.natAbs < 2 ^ 200 := by omega
  refine br (fun hs => ?_) (fun hs => ?_)
  · o_readsAll
    refine g_divW h0 hmb (by decide) ?_
    o_readsAll
    exact k _ _ (Int.emod_nonneg _ (by omega)) (Int.emod_lt_of_pos _ h0) ⟨_, _, _, upd_same⟩ (off_refl _ _).upd
  · o_readsAll
    exact k _ _ (Int.emod_nonneg _ (by omega)) (Int.emod_lt_of_pos _ h0) ⟨_, _, _, upd_same⟩ (off_refl _ _).upd.upd
def sp_stock (K : PySem.W.Frag) : Sp := fun vs H Q _ => ∃ (a : Addr) (ns : List Int) (at_ : Nat), vs = [.ref a, .int at_] ∧ SqL K H a (ns.map V.int) ∧ ns.length ≤ 63 ∧ at_ < 1000000 ∧ ∀ p H', H p = none → Same H H' → Stk H' p → Q (.ref p) H'
theorem cut5 (ns : List Int) (lo hi : Option Int) : ∃ ms : List Int, cutV (ns.map V.int) lo hi = ms.map V.int ∧ ms.length ≤ ns.length := by
  unfold cutV
  rw [← List.map_drop, ← List.map_take]
  refine ⟨_, rfl, ?_⟩
  rw [List.length_take, List.length_drop]
  omega
theorem d_law_stock (T : Txt K w mg Z) : Dfn P w K mg base 1 "_law_stock" ["script", "at"] (sp_stock K) := by
  obtain ⟨f, fd, F, hm, hb⟩ := T.f_law_stock
  refine ⟨f, fd, F.ok sc_law_stock (fun vs H Q E h => by first | (obtain ⟨rfl, _⟩ := h; rfl) | (obtain ⟨_, rfl, _⟩ := h; rfl) | (obtain ⟨_, _, rfl, _⟩ := h; rfl) | (obtain ⟨_, _, _, rfl, _⟩ := h; rfl) | (obtain ⟨_, _, _, _, rfl, _⟩ := h; rfl) | (obtain ⟨_, _, _, _, _, rfl, _⟩ := h; rfl) | (obtain ⟨_, _, _, _, _, _, rfl, _⟩ := h; rfl) | (obtain ⟨_, _, _, _, _, _, _, rfl, _⟩ := h; rfl) | (obtain ⟨_, _, _, _, _, _, _, _, rfl, _⟩ := h; rfl) | (obtain ⟨_, _, _, _, _, _, _, _, _, rfl, _⟩ := h; rfl) | (obtain ⟨_, _, _, _, _, _, _, _, _, _, rfl, _⟩ := h; rfl) | (obtain ⟨_, _, _, _, _, _, _, _, _, _, _, rfl, _⟩ := h; rfl) | (obtain ⟨_, _, _, _, _, _, _, _, _, _, _, _, rfl, _⟩ := h; rfl) | (obtain ⟨_, _, _, _, _, _, _, _, _, _, _, _, _, rfl, _⟩ := h; rfl) | (obtain ⟨_, _, _, _, _, _, _, _, _, _, _, _, _, _, rfl, _⟩ := h; rfl) | (obtain ⟨_, _, _, _, _, _, _, _, _, _, _, _, _, _, _, rfl, _⟩ := h; rfl) | (obtain ⟨_, _, _, _, _, _, _, _, _, _, _, _, _, _, _, _, rfl, _⟩ := h; rfl)) (fun cdv A outer s H vs Q E hr h => ?_), hm, F.kp, hb⟩
  obtain ⟨a, ns, at_, rfl, hS, hn, ha, k⟩ := h
  refine ⟨_, (pss_cons (ps_set (i := 2) sc_law_stock.nd rfl (.inl rfl) (pe_ifExp (pt_cmpR op_lt (pv 1) (pe_callB call_uLen (by rfl) T.b_len bt_len (pa_cons (pv 0) pa_nil)) (nomark _)) (pe_callTy call_uInt (by rfl) T.b_int bt_int (pa_cons (pe_ix ix_seq (pv 0) (pv 1) (fun _ _ => rfl)) pa_nil)) (pe_op op_uAdd (pe_op op_uMul pe_int (pe_callB (cr_sum rfl) (by rfl) T.b_sum bt_sum (pa_cons (pe_lc (own := [("one", 5)]) (by rfl) sc_law_stock.nd (pi_list (pe_slice sl_u (pv 0) po_none (po_some pe_int))) (blkOk_by (N := n_law_stock) (sc := defScope st_law_stock) (by decide +kernel)) (fun _ _ _ _ _ => (pg_name (i := 5) sc_law_stock.nd rfl (.inl rfl))) (fun _ _ _ _ _ => pts_nil) (fun _ _ _ _ _ => (pe_op op_mod (pe_callTy call_uInt (by rfl) T.b_int bt_int (pa_cons (pv 5) pa_nil)) pe_int))) pa_nil))) pe_int)))
      (pss_cons (ps_set (i := 3) sc_law_stock.nd rfl (.inl rfl) (pe_op op_mod (pe_callB call_uAbs (by rfl) T.b_abs bt_abs (pa_cons (pv 2) pa_nil)) (pe_op op_uMul (pe_op op_pow pe_int pe_int) (pe_op op_pow pe_int pe_int))))
      (pss_cons (ps_set (i := 4) sc_law_stock.nd rfl (.inl rfl) (pe_op op_mod (pe_callTy call_uInt (by rfl) T.b_int bt_int (pa_cons (pe_op op_uAdd (pe_op op_uAdd (pe_op op_uAdd (pe_op op_uMul pe_int (pv 3)) (pe_ifExp (pt_cmpR op_lt (pv 2) pe_int (nomark _)) pe_int pe_int)) (pe_op op_uMul (pv 1) pe_int)) pe_int) pa_nil)) pe_int))
      (pss_one (ps_ret (pe_lst (pa_cons (pe_ifExp (pt_cmpR op_ge (pv 3) (pe_op op_pow pe_int pe_int) (nomark _)) (pv 3) pe_int) (pa_cons (pe_op op_mod (pe_callTy call_uInt (by rfl) T.b_int bt_int (pa_cons (pe_op op_uMul (pe_op op_uAdd (pv 4) pe_int) (pe_op op_uAdd (pv 4) pe_int)) pa_nil)) pe_int) (pa_cons (pv 1) pa_nil))))))))), ?_⟩
  try dsimp only [cxOf, Cx.nox, Cx.wish]
  show (_ : TS) _ [some _, some _, none, none, none, none] _
  o_readsAll
  refine jnE (fun x H1 => ∃ c : Int, x = .int c ∧ Same H H1) ?_ (fun Q' hQ => br (fun hc => ?_) (fun hc => ?_))
  · rintro x H1 ⟨c, rfl, e1⟩
    o_readsAll
    refine jnE (fun x H1 => ∃ c : Int, x = .int c ∧ Same H H1) ?_ (fun Q' hQ => br (fun hc => ?_) (fun hc => ?_))
    · rintro x H2 ⟨c2, rfl, e2⟩
      o_readsAll
      refine jnE (fun x H1 => ∃ c : Int, x = .int c ∧ Same H H1) ?_ (fun Q' hQ => br (fun hc => ?_) (fun hc => ?_))
      · rintro x H3 ⟨c3, rfl, e3⟩
        o_readsAll
        exact k _ _ (e3.free (by assumption)) (e3.trans (by assumption)) ⟨_, _, _, by assumption⟩
      · o_readsAll
        exact hQ _ _ ⟨_, rfl, e2⟩
      · o_readsAll
        exact hQ _ _ ⟨_, rfl, e2⟩
    · o_readsAll
      exact hQ _ _ ⟨_, rfl, e1⟩
    · o_readsAll
      exact hQ _ _ ⟨_, rfl, e1⟩
  · rw [List.length_map] at hc
    o_readsAll
    refine g_ixL hS (v := .int (ns[at_]'(by omega))) (atI_nat (j := at_) (by rw [List.getElem?_map, List.getElem?_eq_getElem (by omega)]; rfl)) ?_
    o_readsAll
    exact hQ _ _ ⟨_, rfl, Same.refl _⟩
  · o_readsAll
    obtain ⟨ms, em, lm⟩ := cut5 ns none (some 5)
    rename_i p H1 hp e1 h1
    rw [em] at h1
    refine l_lstP (fun i => .int ((ms.getD i 0) % 1000003)) (.of h1) (fun x => rfl) (fun D i x H' hx hD e hl => ?_) fun q H2 hq e2 h2 => ?_
    · rw [List.getElem?_map] at hx
      obtain ⟨m, hm, rfl⟩ := Option.map_eq_some_iff.mp hx
      have hi := (List.getElem?_eq_some_iff.mp hm).1
      o_readsAll
      exact g_itemP e hl hD (by rw [sizeLine_eq]; omega) (by rw [List.getD_eq_getElem?_getD, hm]; rfl)
    · rw [show (List.range (ms.map V.int).length).map (fun i => V.int ((ms.getD i 0) % 1000003)) = ((List.range ms.length).map fun i => (ms.getD i 0) % 1000003).map V.int by rw [List.map_map, List.length_map]; rfl] at h2
      o_readsAll
      exact hQ _ _ ⟨_, rfl, e1.trans e2⟩
end
end L30

namespace L30
open SX
section
variable {P : Program} {w : World} {K : PySem.W.Frag} {mg : Str → Option Value} {base : Heap} {Z : Ad}
/-- the same data, so deep at most -/
def Alk (H : Hp) : Nat → V → V → Prop
  | 0, _, _ => False
  | n + 1, x, y => (x = .non ∧ y = .non) ∨ (∃ i : Int, x = .int i ∧ y = .int i) ∨ (∃ s : Str, x = .str s ∧ y = .str s) ∨ (∃ b : Bool, x = .bl b ∧ y = .bl b) ∨
    (∃ (a b : Addr) (xs ys : List V), x = .ref a ∧ y = .ref b ∧ H a = some (.tup xs) ∧ H b = some (.tup ys) ∧ xs.length = ys.length ∧ ys.length ≤ 1000000 ∧ ∀ (i : Nat) (u v : V), xs[i]? = some u → ys[i]? = some v → Alk H n u v) ∨
    (∃ (a b : Addr) (xs ys : List V), x = .ref a ∧ y = .ref b ∧ H a = some (.lst xs) ∧ H b = some (.lst ys) ∧ xs.length = ys.length ∧ ys.length ≤ 1000000 ∧ ∀ (i : Nat) (u v : V), xs[i]? = some u → ys[i]? = some v → Alk H n u v)
theorem Alk.same {H H' : Hp} (e : Same H H') : ∀ {n : Nat} {x y : V}, Alk H n x y → Alk H' n x y
  | 0, x, y, h => h.elim
  | n + 1, x, y, h => by
    rcases h with h | h | h | h | ⟨a, b, xs, ys, h1, h2, h3, h4, h5, h6, h7⟩ | ⟨a, b, xs, ys, h1, h2, h3, h4, h5, h6, h7⟩
    · exact .inl h
    · exact .inr (.inl h)
    · exact .inr (.inr (.inl h))
    · exact .inr (.inr (.inr (.inl h)))
    · exact .inr (.inr (.inr (.inr (.inl ⟨a, b, xs, ys, h1, h2, e _ _ h3, e _ _ h4, h5, h6, fun i u v p q => Alk.same e (h7 i u v p q)⟩))))
    · exact .inr (.inr (.inr (.inr (.inr ⟨a, b, xs, ys, h1, h2, e _ _ h3, e _ _ h4, h5, h6, fun i u v p q => Alk.same e (h7 i u v p q)⟩))))
def sp_mat (n : Nat) : Sp := fun vs H Q _ => ∃ x y, vs = [x, y] ∧ Alk H n x y ∧ ∀ H', Same H H' → Q (.bl true) H'
theorem d_law_matches (T : Txt K w mg Z) : ∀ n, Dfn P w K mg base (n + 1) "_law_matches" ["answer", "due"] (sp_mat n)
  | 0 => by
    obtain ⟨f, fd, F, hm, hb⟩ := T.f_law_matches
    refine ⟨f, fd, F.ok sc_law_matches (fun vs H Q E h => by first | (obtain ⟨rfl, _⟩ := h; rfl) | (obtain ⟨_, rfl, _⟩ := h; rfl) | (obtain ⟨_, _, rfl, _⟩ := h; rfl) | (obtain ⟨_, _, _, rfl, _⟩ := h; rfl) | (obtain ⟨_, _, _, _, rfl, _⟩ := h; rfl) | (obtain ⟨_, _, _, _, _, rfl, _⟩ := h; rfl) | (obtain ⟨_, _, _, _, _, _, rfl, _⟩ := h; rfl) | (obtain ⟨_, _, _, _, _, _, _, rfl, _⟩ := h; rfl) | (obtain ⟨_, _, _, _, _, _, _, _, rfl, _⟩ := h; rfl) | (obtain ⟨_, _, _, _, _, _, _, _, _, rfl, _⟩ := h; rfl) | (obtain ⟨_, _, _, _, _, _, _, _, _, _, rfl, _⟩ := h; rfl) | (obtain ⟨_, _, _, _, _, _, _, _, _, _, _, rfl, _⟩ := h; rfl) | (obtain ⟨_, _, _, _, _, _, _, _, _, _, _, _, rfl, _⟩ := h; rfl) | (obtain ⟨_, _, _, _, _, _, _, _, _, _, _, _, _, rfl, _⟩ := h; rfl) | (obtain ⟨_, _, _, _, _, _, _, _, _, _, _, _, _, _, rfl, _⟩ := h; rfl) | (obtain ⟨_, _, _, _, _, _, _, _, _, _, _, _, _, _, _, rfl, _⟩ := h; rfl) | (obtain ⟨_, _, _, _, _, _, _, _, _, _, _, _, _, _, _, _, rfl, _⟩ := h; rfl)) (fun cdv A outer s H vs Q E hr h => ?_), hm, F.kp, hb⟩
    obtain ⟨x, y, rfl, h, k⟩ := h
    exact h.elim
  | n + 1 => by
    have D_law_matches := d_law_matches T n
    obtain ⟨f, fd, F, hm, hb⟩ := T.f_law_matches
    refine ⟨f, fd, F.ok sc_law_matches (fun vs H Q E h => by first | (obtain ⟨rfl, _⟩ := h; rfl) | (obtain ⟨_, rfl, _⟩ := h; rfl) | (obtain ⟨_, _, rfl, _⟩ := h; rfl) | (obtain ⟨_, _, _, rfl, _⟩ := h; rfl) | (obtain ⟨_, _, _, _, rfl, _⟩ := h; rfl) | (obtain ⟨_, _, _, _, _, rfl, _⟩ := h; rfl) | (obtain ⟨_, _, _, _, _, _, rfl, _⟩ := h; rfl) | (obtain ⟨_, _, _, _, _, _, _, rfl, _⟩ := h; rfl) | (obtain ⟨_, _, _, _, _, _, _, _, rfl, _⟩ := h; rfl) | (obtain ⟨_, _, _, _, _, _, _, _, _, rfl, _⟩ := h; rfl) | (obtain ⟨_, _, _, _, _, _, _, _, _, _, rfl, _⟩ := h; rfl) | (obtain ⟨_, _, _, _, _, _, _, _, _, _, _, rfl, _⟩ := h; rfl) | (obtain ⟨_, _, _, _, _, _, _, _, _, _, _, _, rfl, _⟩ := h; rfl) | (obtain ⟨_, _, _, _, _, _, _, _, _, _, _, _, _, rfl, _⟩ := h; rfl) | (obtain ⟨_, _, _, _, _, _, _, _, _, _, _, _, _, _, rfl, _⟩ := h; rfl) | (obtain ⟨_, _, _, _, _, _, _, _, _, _, _, _, _, _, _, rfl, _⟩ := h; rfl) | (obtain ⟨_, _, _, _, _, _, _, _, _, _, _, _, _, _, _, _, rfl, _⟩ := h; rfl)) (fun cdv A outer s H vs Q E hr h => ?_), hm, F.kp, hb⟩
    obtain ⟨x, y, rfl, h, k⟩ := h
    refine ⟨_, (pss_cons (ps_if (PW.pt (pw_or (pt_cmpR op_uIsN (pv 1) pe_non (nomark _)) (pw_or1 (pt_cmpR op_uIsN (pv 0) pe_non (nomark _))))) (pss_one (ps_ret (pe_and (pe_cmpR op_uIsN (pv 1) pe_non (nomark _)) (pe_one (pe_cmpR op_uIsN (pv 0) pe_non (nomark _)))))) pss_nil)
      (pss_cons (ps_if (PW.pt (pw_or (pt_u (pe_callB call_isi (by rfl) T.b_isinstance bt_isinstance (pa_cons (pv 1) (pa_cons (pe_bltn (v := .ty "bool") (by rfl) T.b_bool bt_bool rfl) pa_nil)))) (pw_or1 (pt_u (pe_callB call_isi (by rfl) T.b_isinstance bt_isinstance (pa_cons (pv 0) (pa_cons (pe_bltn (v := .ty "bool") (by rfl) T.b_bool bt_bool rfl) pa_nil))))))) (pss_one (ps_ret (pe_and (pe_callB call_isi (by rfl) T.b_isinstance bt_isinstance (pa_cons (pv 1) (pa_cons (pe_bltn (v := .ty "bool") (by rfl) T.b_bool bt_bool rfl) pa_nil))) (pe_and (pe_callB call_isi (by rfl) T.b_isinstance bt_isinstance (pa_cons (pv 0) (pa_cons (pe_bltn (v := .ty "bool") (by rfl) T.b_bool bt_bool rfl) pa_nil))) (pe_one (pe_cmpR (op_uEq hr.units) (pv 0) (pv 1) (nomark _))))))) pss_nil)
      (pss_cons (ps_if (pt_u (pe_callB call_isi (by rfl) T.b_isinstance bt_isinstance (pa_cons (pv 1) (pa_cons (pe_bltn (v := .ty "int") (by rfl) T.b_int bt_int rfl) pa_nil)))) (pss_one (ps_ret (pe_and (pe_callB call_isi (by rfl) T.b_isinstance bt_isinstance (pa_cons (pv 0) (pa_cons (pe_bltn (v := .ty "int") (by rfl) T.b_int bt_int rfl) pa_nil))) (pe_one (pe_cmpR (op_uEq hr.units) (pv 0) (pv 1) (nomark _)))))) pss_nil)
      (pss_cons (ps_if (pt_u (pe_callB call_isi (by rfl) T.b_isinstance bt_isinstance (pa_cons (pv 1) (pa_cons (pe_bltn (v := .ty "str") (by rfl) T.b_str bt_str rfl) pa_nil)))) (pss_one (ps_ret (pe_and (pe_callB call_isi (by rfl) T.b_isinstance bt_isinstance (pa_cons (pv 0) (pa_cons (pe_bltn (v := .ty "str") (by rfl) T.b_str bt_str rfl) pa_nil))) (pe_one (pe_cmpR (op_uEq hr.units) (pv 0) (pv 1) (nomark _)))))) pss_nil)
      (pss_cons (ps_if (PW.pt (pw_and (pt_u (pe_callB call_isi (by rfl) T.b_isinstance bt_isinstance (pa_cons (pv 1) (pa_cons (pe_bltn (v := .ty "tuple") (by rfl) T.b_tuple bt_tuple rfl) pa_nil)))) (pw_and1 (pt_not (pt_u (pe_callB call_isi (by rfl) T.b_isinstance bt_isinstance (pa_cons (pv 0) (pa_cons (pe_bltn (v := .ty "tuple") (by rfl) T.b_tuple bt_tuple rfl) pa_nil)))))))) (pss_one (ps_ret pe_bl)) pss_nil)
      (pss_cons (ps_if (PW.pt (pw_and (pt_u (pe_callB call_isi (by rfl) T.b_isinstance bt_isinstance (pa_cons (pv 1) (pa_cons (pe_bltn (v := .ty "list") (by rfl) T.b_list bt_list rfl) pa_nil)))) (pw_and1 (pt_not (pt_u (pe_callB call_isi (by rfl) T.b_isinstance bt_isinstance (pa_cons (pv 0) (pa_cons (pe_bltn (v := .ty "list") (by rfl) T.b_list bt_list rfl) pa_nil)))))))) (pss_one (ps_ret pe_bl)) pss_nil)
      (pss_cons (ps_if (pt_cmpR (op_uNe hr.units) (pe_callB call_uLen (by rfl) T.b_len bt_len (pa_cons (pv 0) pa_nil)) (pe_callB call_uLen (by rfl) T.b_len bt_len (pa_cons (pv 1) pa_nil)) (nomark _)) (pss_one (ps_ret pe_bl)) pss_nil)
      (pss_cons (ps_for PassesOwn.never rfl (pi_range1 (by rfl) T.b_range (pa_cons (pe_callB call_uLen (by rfl) T.b_len bt_len (pa_cons (pv 1) pa_nil)) pa_nil)) (pg_name (i := 2) sc_law_matches.nd rfl (.inl rfl))
        (pss_one (ps_if (pt_not (pt_u (pe_dfn D_law_matches (hr.mono (by omega)) (by rfl) (pa_cons (pe_ix ix_seq (pv 0) (pv 2) (fun _ _ => rfl)) (pa_cons (pe_ix ix_seq (pv 1) (pv 2) (fun _ _ => rfl)) pa_nil))))) (pss_one (ps_ret pe_bl)) pss_nil)))
      (pss_one (ps_ret pe_bl)))))))))), ?_⟩
    try dsimp only [cxOf, Cx.nox, Cx.wish]
    show (_ : TS) _ [some _, some _, none] _
    rcases h with ⟨rfl, rfl⟩ | ⟨i, rfl, rfl⟩ | ⟨z, rfl, rfl⟩ | ⟨z, rfl, rfl⟩ | ⟨a, b, xs, ys, rfl, rfl, h1, h2, hl, hs, hk⟩ | ⟨a, b, xs, ys, rfl, rfl, h1, h2, hl, hs, hk⟩
    · o_readsAll
      exact k _ (Same.refl _)
    · o_readsAll
      rw [decide_eq_true rfl]
      exact k _ (Same.refl _)
    · o_readsAll
      rw [decide_eq_true rfl]
      exact k _ (Same.refl _)
    · o_readsAll
      refine g_eqB ?_
      rw [decide_eq_true rfl]
      exact k _ (Same.refl _)
    · o_readsAll
      refine brn (fun h => absurd (by rw [hl]) h) (fun _ => ?_)
      o_readsAll
      refine f_rng (fun i σ' H' => ∃ x, σ' = [some (.ref a), some (.ref b), x] ∧ Same H H') ⟨_, rfl, Same.refl _⟩ ?_ ?_
      · rintro i σ' H1 hi ⟨x, rfl, e1⟩
        have hi' : i < ys.length := by omega
        have hx : xs[i]? = some (xs[i]'(by omega)) := List.getElem?_eq_getElem _
        have hy : ys[i]? = some (ys[i]'hi') := List.getElem?_eq_getElem _
        generalize xs[i]'(by omega) = u at hx
        generalize ys[i]'hi' = v at hy
        rw [Int.zero_add]
        o_readsAll
        refine g_ixT (.of (e1 _ _ h1)) (atI_nat hx) ?_
        o_readsAll
        refine g_ixT (.of (e1 _ _ h2)) (atI_nat hy) ?_
        o_readsAll
        refine ⟨_, _, rfl, (hk i u v hx hy).same e1, fun H2 e2 => ?_⟩
        o_readsAll
        exact ⟨_, rfl, e1.trans e2⟩
      · rintro σ' H1 ⟨x, rfl, e1⟩
        o_readsAll
        exact k _ e1
    · o_readsAll
      refine brn (fun h => absurd (by rw [hl]) h) (fun _ => ?_)
      o_readsAll
      refine f_rng (fun i σ' H' => ∃ x, σ' = [some (.ref a), some (.ref b), x] ∧ Same H H') ⟨_, rfl, Same.refl _⟩ ?_ ?_
      · rintro i σ' H1 hi ⟨x, rfl, e1⟩
        have hi' : i < ys.length := by omega
        have hx : xs[i]? = some (xs[i]'(by omega)) := List.getElem?_eq_getElem _
        have hy : ys[i]? = some (ys[i]'hi') := List.getElem?_eq_getElem _
        generalize xs[i]'(by omega) = u at hx
        generalize ys[i]'hi' = v at hy
        rw [Int.zero_add]
        o_readsAll
        refine g_ixL (.of (e1 _ _ h1)) (atI_nat hx) ?_
        o_readsAll
        refine g_ixL (.of (e1 _ _ h2)) (atI_nat hy) ?_
        o_readsAll
        refine ⟨_, _, rfl, (hk i u v hx hy).same e1, fun H2 e2 => ?_⟩
        o_readsAll
        exact ⟨_, rfl, e1.trans e2⟩
      · rintro σ' H1 ⟨x, rfl, e1⟩
        o_readsAll
        exact k _ e1
end
end L30

namespace L30
open SX Ld
section
variable {P : Program} {w : World} {K : PySem.W.Frag} {mg : Str → Option Value} {base : Heap} {Z : Ad}
def sp_grown (K : PySem.W.Frag) : Sp := fun vs H Q _ => ∃ (L x : Int) (fl ch : Addr) (n : Nat) (fs c : Nat → Int), vs = [.int L, .ref fl, .int x, .ref ch] ∧ IL H fl n fs ∧ IL H ch n c ∧ n ≤ 40 ∧ OkF fs ∧ 0 ≤ L ∧ L ≤ 6 ∧ ∀ p H', H p = none → Same H H' → IL H' p (n + 1) (gv L fs x c) → Q (.ref p) H'
theorem d_grown (T : Txt K w mg Z) : Dfn P w K mg base 1 "grown" ["lanes", "falls", "first", "charges"] (sp_grown K) := by
  obtain ⟨f, fd, F, hm, hb⟩ := T.f_grown
  refine ⟨f, fd, F.ok sc_grown (fun vs H Q E h => by first | (obtain ⟨rfl, _⟩ := h; rfl) | (obtain ⟨_, rfl, _⟩ := h; rfl) | (obtain ⟨_, _, rfl, _⟩ := h; rfl) | (obtain ⟨_, _, _, rfl, _⟩ := h; rfl) | (obtain ⟨_, _, _, _, rfl, _⟩ := h; rfl) | (obtain ⟨_, _, _, _, _, rfl, _⟩ := h; rfl) | (obtain ⟨_, _, _, _, _, _, rfl, _⟩ := h; rfl) | (obtain ⟨_, _, _, _, _, _, _, rfl, _⟩ := h; rfl) | (obtain ⟨_, _, _, _, _, _, _, _, rfl, _⟩ := h; rfl) | (obtain ⟨_, _, _, _, _, _, _, _, _, rfl, _⟩ := h; rfl) | (obtain ⟨_, _, _, _, _, _, _, _, _, _, rfl, _⟩ := h; rfl) | (obtain ⟨_, _, _, _, _, _, _, _, _, _, _, rfl, _⟩ := h; rfl) | (obtain ⟨_, _, _, _, _, _, _, _, _, _, _, _, rfl, _⟩ := h; rfl) | (obtain ⟨_, _, _, _, _, _, _, _, _, _, _, _, _, rfl, _⟩ := h; rfl) | (obtain ⟨_, _, _, _, _, _, _, _, _, _, _, _, _, _, rfl, _⟩ := h; rfl) | (obtain ⟨_, _, _, _, _, _, _, _, _, _, _, _, _, _, _, rfl, _⟩ := h; rfl) | (obtain ⟨_, _, _, _, _, _, _, _, _, _, _, _, _, _, _, _, rfl, _⟩ := h; rfl)) (fun cdv A outer s H vs Q E hr h => ?_), hm, F.kp, hb⟩
  obtain ⟨L, x, fl, ch, n, fs, c, rfl, hf, hc, hn, ok, hL, hL6, k⟩ := h
  refine ⟨_, (pss_cons (ps_set (i := 4) sc_grown.nd rfl (.inl rfl) (pe_lst (pa_cons (pv 2) pa_nil)))
      (pss_cons (ps_for PassesOwn.never rfl (pi_enum (by rfl) T.b_enumerate (pa_cons (pv 1) pa_nil)) (pg_tup (by rfl) (pgs_cons (pg_name (i := 5) sc_grown.nd rfl (.inl rfl)) (pgs_cons (pg_name (i := 6) sc_grown.nd rfl (.inl rfl)) pgs_nil)))
        (pss_cons (ps_set (i := 7) sc_grown.nd rfl (.inl rfl) (pe_ifExp (pt_cmpR (op_uEq hr.units) (pv 6) (pe_gi T.c_OUT) (nomark _)) pe_int (pe_ix ix_seq (pv 4) (pv 6) (fun _ _ => rfl))))
      (pss_one (ps_expr (pe_bm PySem.F.plainAttrs_list PySem.F.slot_list_append PySem.F.type_list_append mt_append (pv 4) (pa_cons (pe_op op_uAdd (pe_op op_sub (pe_op op_uMul (pv 0) (pe_ix ix_seq (pv 4) (pv 5) (fun _ _ => rfl))) (pe_op op_uMul (pe_op op_sub (pv 0) pe_int) (pv 7))) (pe_ix ix_seq (pv 3) (pv 5) (fun _ _ => rfl))) pa_nil))))))
      (pss_one (ps_ret (pv 4))))), ?_⟩
  try dsimp only [cxOf, Cx.nox, Cx.wish]
  show (_ : TS) _ [some _, some _, some _, some _, none, none, none, none] _
  o_readsAll
  rename_i r H1 hr e1 h1 N hN
  refine f_enum (xs := rng n fs) (fun i σ' H' => ∃ a b d, σ' = [some (.int L), some (.ref fl), some (.int x), some (.ref ch), some (.ref r), a, b, d] ∧ Same H H' ∧ IL H' r (i + 1) (gv L fs x c)) ⟨_, _, _, rfl, e1, h1⟩ ?_ ?_ ?_
  · rintro i σ' H2 hi ⟨a, b, d, rfl, e2, h2⟩
    exact (hf.same e2).sq
  · rintro i y σ' H2 T1 H3 hy ⟨a, b, d, rfl, e2, h2⟩ hT e3 h3
    have hi : i < n := by have := (List.getElem?_eq_some_iff.mp hy).1; rw [rng_len] at this; exact this
    rw [rng_at hi] at hy
    cases hy
    have hc3 := (hc.same e2).same e3
    have h23 := h2.same e3
    have okf := ok i
    o_readsAll
    refine jnE (fun y H' => y = .int (lowV (gv L fs x c) (fs i)) ∧ H' = H3) ?_ (fun Q' hQ => br (fun h => ?_) (fun h => ?_))
    · rintro y H' ⟨rfl, rfl⟩
      o_readsAll
      refine g_ixL h23.sq (atI_nat (rng_at (by omega))) ?_
      o_readsAll
      refine g_ixL hc3.sq (atI_nat (rng_at hi)) ?_
      o_readsAll
      refine ⟨_, _, _, rfl, Eg.Same.put (e2.trans e3) hr, ?_⟩
      show upd _ _ _ _ = _
      rw [upd_same, rng_succ (i + 1), gv_succ okf.2.1]
    · o_readsAll
      exact hQ _ _ ⟨by unfold lowV; rw [if_pos (by omega)], rfl⟩
    · o_readsAll
      refine g_ixL h23.sq (at_ofN (j := (fs i).toNat) (by omega) (rng_at (by omega))) ?_
      exact hQ _ _ ⟨by unfold lowV; rw [if_neg (by omega)], rfl⟩
  · rintro σ' H2 ⟨a, b, d, rfl, e2, h2⟩
    o_readsAll
    rw [rng_len] at h2
    exact k r H2 hr e2 h2
theorem c_grown {L x : Int} {fl ch : Addr} {n : Nat} {fs c : Nat → Int} {H : Hp} {Q : VK} {E : XK} (hf : IL H fl n fs) (hc : IL H ch n c) (hn : n ≤ 40) (ok : OkF fs) (hL : 0 ≤ L) (hL6 : L ≤ 6) (k : ∀ p H', H p = none → Same H H' → IL H' p (n + 1) (gv L fs x c) → Q (.ref p) H') : sp_grown K [.int L, .ref fl, .int x, .ref ch] H Q E := ⟨L, x, fl, ch, n, fs, c, rfl, hf, hc, hn, ok, hL, hL6, k⟩
def sp_row (c : Int) (v : Int → (Nat → Int) → Nat → Int) : Sp := fun vs H Q _ => ∃ (L : Int) (fl : Addr) (n : Nat) (fs : Nat → Int), vs = [.int L, .ref fl] ∧ IL H fl n fs ∧ n ≤ 40 ∧ OkF fs ∧ 0 ≤ L ∧ L ≤ 6 ∧ ∀ p H', H p = none → Same H H' → IL H' p (n + 1) (v L fs) → Q (.ref p) H'
def wd (L : Int) (fs : Nat → Int) (b : Nat) : Int := gv L fs 0 (fun _ => 1) b
theorem d_head_row (T : Txt K w mg Z) : Dfn P w K mg base 2 "head_row" ["lanes", "falls"] (sp_row 1 hd) := by
  obtain ⟨f, fd, F, hm, hb⟩ := T.f_head_row
  refine ⟨f, fd, F.ok sc_head_row (fun vs H Q E h => by first | (obtain ⟨rfl, _⟩ := h; rfl) | (obtain ⟨_, rfl, _⟩ := h; rfl) | (obtain ⟨_, _, rfl, _⟩ := h; rfl) | (obtain ⟨_, _, _, rfl, _⟩ := h; rfl) | (obtain ⟨_, _, _, _, rfl, _⟩ := h; rfl) | (obtain ⟨_, _, _, _, _, rfl, _⟩ := h; rfl) | (obtain ⟨_, _, _, _, _, _, rfl, _⟩ := h; rfl) | (obtain ⟨_, _, _, _, _, _, _, rfl, _⟩ := h; rfl) | (obtain ⟨_, _, _, _, _, _, _, _, rfl, _⟩ := h; rfl) | (obtain ⟨_, _, _, _, _, _, _, _, _, rfl, _⟩ := h; rfl) | (obtain ⟨_, _, _, _, _, _, _, _, _, _, rfl, _⟩ := h; rfl) | (obtain ⟨_, _, _, _, _, _, _, _, _, _, _, rfl, _⟩ := h; rfl) | (obtain ⟨_, _, _, _, _, _, _, _, _, _, _, _, rfl, _⟩ := h; rfl) | (obtain ⟨_, _, _, _, _, _, _, _, _, _, _, _, _, rfl, _⟩ := h; rfl) | (obtain ⟨_, _, _, _, _, _, _, _, _, _, _, _, _, _, rfl, _⟩ := h; rfl) | (obtain ⟨_, _, _, _, _, _, _, _, _, _, _, _, _, _, _, rfl, _⟩ := h; rfl) | (obtain ⟨_, _, _, _, _, _, _, _, _, _, _, _, _, _, _, _, rfl, _⟩ := h; rfl)) (fun cdv A outer s H vs Q E hr h => ?_), hm, F.kp, hb⟩
  obtain ⟨L, fl, n, fs, rfl, hf, hn, ok, hL, hL6, k⟩ := h
  have D_grown := d_grown (P := P) (base := base) T
  refine ⟨_, (pss_one (ps_ret (pe_dfn D_grown (hr.mono (by decide)) (by rfl) (pa_cons (pv 0) (pa_cons (pv 1) (pa_cons pe_int (pa_cons (pe_lc (own := [("_", 2)]) (by rfl) sc_head_row.nd (pi_list (pv 1)) (blkOk_by (N := n_head_row) (sc := defScope st_head_row) (by decide +kernel)) (fun _ _ _ _ _ => (pg_name (i := 2) sc_head_row.nd rfl (.inl rfl))) (fun _ _ _ _ _ => pts_nil) (fun _ _ _ _ _ => pe_int)) pa_nil))))))), ?_⟩
  try dsimp only [cxOf, Cx.nox, Cx.wish]
  show (_ : TS) _ [some _, some _, none] _
  o_readsAll
  refine l_lstP (fun i => .int 0) (xs := rng n fs) hf.sq (fun x => rfl) (fun D i x H' hx hD e hl => ?_) fun q H2 hq e2 h2 => ?_
  · have hi := (List.getElem?_eq_some_iff.mp hx).1
    rw [rng_len] at hi
    o_readsAll
    exact g_itemP e hl hD (by rw [sizeLine_eq]; omega) rfl
  · rw [rng_len] at h2
    o_readsAll
    refine c_grown (hf.same e2) h2 hn ok hL hL6 fun p H3 hp e3 h3 => ?_
    exact k p H3 (e2.free hp) (e2.trans e3) h3
theorem d_worth_row (T : Txt K w mg Z) : Dfn P w K mg base 2 "worth_row" ["lanes", "falls"] (sp_row 0 wd) := by
  obtain ⟨f, fd, F, hm, hb⟩ := T.f_worth_row
  refine ⟨f, fd, F.ok sc_worth_row (fun vs H Q E h => by first | (obtain ⟨rfl, _⟩ := h; rfl) | (obtain ⟨_, rfl, _⟩ := h; rfl) | (obtain ⟨_, _, rfl, _⟩ := h; rfl) | (obtain ⟨_, _, _, rfl, _⟩ := h; rfl) | (obtain ⟨_, _, _, _, rfl, _⟩ := h; rfl) | (obtain ⟨_, _, _, _, _, rfl, _⟩ := h; rfl) | (obtain ⟨_, _, _, _, _, _, rfl, _⟩ := h; rfl) | (obtain ⟨_, _, _, _, _, _, _, rfl, _⟩ := h; rfl) | (obtain ⟨_, _, _, _, _, _, _, _, rfl, _⟩ := h; rfl) | (obtain ⟨_, _, _, _, _, _, _, _, _, rfl, _⟩ := h; rfl) | (obtain ⟨_, _, _, _, _, _, _, _, _, _, rfl, _⟩ := h; rfl) | (obtain ⟨_, _, _, _, _, _, _, _, _, _, _, rfl, _⟩ := h; rfl) | (obtain ⟨_, _, _, _, _, _, _, _, _, _, _, _, rfl, _⟩ := h; rfl) | (obtain ⟨_, _, _, _, _, _, _, _, _, _, _, _, _, rfl, _⟩ := h; rfl) | (obtain ⟨_, _, _, _, _, _, _, _, _, _, _, _, _, _, rfl, _⟩ := h; rfl) | (obtain ⟨_, _, _, _, _, _, _, _, _, _, _, _, _, _, _, rfl, _⟩ := h; rfl) | (obtain ⟨_, _, _, _, _, _, _, _, _, _, _, _, _, _, _, _, rfl, _⟩ := h; rfl)) (fun cdv A outer s H vs Q E hr h => ?_), hm, F.kp, hb⟩
  obtain ⟨L, fl, n, fs, rfl, hf, hn, ok, hL, hL6, k⟩ := h
  have D_grown := d_grown (P := P) (base := base) T
  refine ⟨_, (pss_one (ps_ret (pe_dfn D_grown (hr.mono (by decide)) (by rfl) (pa_cons (pv 0) (pa_cons (pv 1) (pa_cons pe_int (pa_cons (pe_lc (own := [("_", 2)]) (by rfl) sc_worth_row.nd (pi_list (pv 1)) (blkOk_by (N := n_worth_row) (sc := defScope st_worth_row) (by decide +kernel)) (fun _ _ _ _ _ => (pg_name (i := 2) sc_worth_row.nd rfl (.inl rfl))) (fun _ _ _ _ _ => pts_nil) (fun _ _ _ _ _ => pe_int)) pa_nil))))))), ?_⟩
  try dsimp only [cxOf, Cx.nox, Cx.wish]
  show (_ : TS) _ [some _, some _, none] _
  o_readsAll
  refine l_lstP (fun i => .int 1) (xs := rng n fs) hf.sq (fun x => rfl) (fun D i x H' hx hD e hl => ?_) fun q H2 hq e2 h2 => ?_
  · have hi := (List.getElem?_eq_some_iff.mp hx).1
    rw [rng_len] at hi
    o_readsAll
    exact g_itemP e hl hD (by rw [sizeLine_eq]; omega) rfl
  · rw [rng_len] at h2
    o_readsAll
    refine c_grown (hf.same e2) h2 hn ok hL hL6 fun p H3 hp e3 h3 => ?_
    exact k p H3 (e2.free hp) (e2.trans e3) h3
/-- the rows of loads -/
def RowsAt (H : Hp) (ps : List Addr) (n : Nat) (L : Int) (fs : Nat → Int) : Prop := ∀ a q, ps[a]? = some q → IL H q (n + 1) (ld L fs a)
theorem RowsAt.snoc {H : Hp} {qs : List Addr} {n : Nat} {L : Int} {fs : Nat → Int} {r D : Addr} {o : HO} (h : RowsAt H qs n L fs) (hr : IL H r (n + 1) (ld L fs qs.length)) (e : H D = some (.lst (qs.map V.ref))) : RowsAt (upd H D o) (qs ++ [r]) n L fs := by
  intro a q hq
  by_cases ha : a < qs.length
  · rw [List.getElem?_append_left ha] at hq
    show upd _ _ _ _ = _
    rw [upd_ne (il_ne (h a q hq) e)]
    exact h a q hq
  · have ha2 := (List.getElem?_eq_some_iff.mp hq).1
    rw [List.length_append, List.length_cons, List.length_nil] at ha2
    rw [List.getElem?_append_right (by omega), show a - qs.length = 0 by omega] at hq
    cases hq
    show upd _ _ _ _ = _
    rw [upd_ne (il_ne hr e), show a = qs.length by omega]
    exact hr
theorem RowsAt.same {H H' : Hp} {ps : List Addr} {n : Nat} {L : Int} {fs : Nat → Int} (h : RowsAt H ps n L fs) (e : Same H H') : RowsAt H' ps n L fs := fun a q hq => (h a q hq).same e
def sp_lrows : Sp := fun vs H Q _ => ∃ (L : Int) (fl : Addr) (n : Nat) (fs : Nat → Int), vs = [.int L, .ref fl] ∧ IL H fl n fs ∧ n ≤ 40 ∧ OkF fs ∧ 0 ≤ L ∧ L ≤ 6 ∧ ∀ p ps H', H p = none → Same H H' → H' p = some (.lst (ps.map V.ref)) → ps.length = n → RowsAt H' ps n L fs → (∀ q ∈ ps, H q = none) → Q (.ref p) H'
theorem d_load_rows (T : Txt K w mg Z) : Dfn P w K mg base 2 "load_rows" ["lanes", "falls"] (sp_lrows) := by
  obtain ⟨f, fd, F, hm, hb⟩ := T.f_load_rows
  refine ⟨f, fd, F.ok sc_load_rows (fun vs H Q E h => by first | (obtain ⟨rfl, _⟩ := h; rfl) | (obtain ⟨_, rfl, _⟩ := h; rfl) | (obtain ⟨_, _, rfl, _⟩ := h; rfl) | (obtain ⟨_, _, _, rfl, _⟩ := h; rfl) | (obtain ⟨_, _, _, _, rfl, _⟩ := h; rfl) | (obtain ⟨_, _, _, _, _, rfl, _⟩ := h; rfl) | (obtain ⟨_, _, _, _, _, _, rfl, _⟩ := h; rfl) | (obtain ⟨_, _, _, _, _, _, _, rfl, _⟩ := h; rfl) | (obtain ⟨_, _, _, _, _, _, _, _, rfl, _⟩ := h; rfl) | (obtain ⟨_, _, _, _, _, _, _, _, _, rfl, _⟩ := h; rfl) | (obtain ⟨_, _, _, _, _, _, _, _, _, _, rfl, _⟩ := h; rfl) | (obtain ⟨_, _, _, _, _, _, _, _, _, _, _, rfl, _⟩ := h; rfl) | (obtain ⟨_, _, _, _, _, _, _, _, _, _, _, _, rfl, _⟩ := h; rfl) | (obtain ⟨_, _, _, _, _, _, _, _, _, _, _, _, _, rfl, _⟩ := h; rfl) | (obtain ⟨_, _, _, _, _, _, _, _, _, _, _, _, _, _, rfl, _⟩ := h; rfl) | (obtain ⟨_, _, _, _, _, _, _, _, _, _, _, _, _, _, _, rfl, _⟩ := h; rfl) | (obtain ⟨_, _, _, _, _, _, _, _, _, _, _, _, _, _, _, _, rfl, _⟩ := h; rfl)) (fun cdv A outer s H vs Q E hr h => ?_), hm, F.kp, hb⟩
  obtain ⟨L, fl, n, fs, rfl, hf, hn, ok, hL, hL6, k⟩ := h
  have D_grown := d_grown (P := P) (base := base) T
  refine ⟨_, (pss_cons (ps_set (i := 2) sc_load_rows.nd rfl (.inr rfl) (pe_callTy call_uRng (by rfl) T.b_range bt_range (pa_cons (pe_callB call_uLen (by rfl) T.b_len bt_len (pa_cons (pv 1) pa_nil)) pa_nil)))
      (pss_one (ps_ret (pe_lc (own := [("a", 3)]) (by rfl) sc_load_rows.nd (pi_range1 (by rfl) T.b_range (pa_cons (pe_callB call_uLen (by rfl) T.b_len bt_len (pa_cons (pv 1) pa_nil)) pa_nil)) (blkOk_by (N := n_load_rows) (sc := defScope st_load_rows) (by decide +kernel)) (fun _ _ _ _ _ => (pg_name (i := 3) sc_load_rows.nd rfl (.inr rfl))) (fun _ _ _ _ _ => pts_nil) (fun _ _ _ _ _ => (pe_dfn D_grown (hr.mono (by decide)) (by rfl) (pa_cons (pv 0) (pa_cons (pv 1) (pa_cons pe_int (pa_cons (pe_lc (own := [("b", 4)]) (by rfl) sc_load_rows.nd (pi_rng (pv 2)) (blkOk_by (N := n_load_rows) (sc := (⟨.function, [(PySem.Str.ofString ".0", .local), (PySem.Str.ofString "a", .cell), (PySem.Str.ofString "grown", .globalImplicit), (PySem.Str.ofString "falls", .cell), (PySem.Str.ofString "lanes", .cell), (PySem.Str.ofString "rungs", .cell)], false, false, []⟩ : Scope)) (by decide +kernel)) (fun _ _ _ _ _ => (pg_name (i := 4) sc_load_rows.nd rfl (.inl rfl))) (fun _ _ _ _ _ => pts_nil) (fun _ _ _ _ _ => (pe_ifExp (pt_cmpR (op_uEqK (K := K) rfl hr.units) (pv 4) (pv 3) (nomark _)) pe_int pe_int))) pa_nil)))))))))), ?_⟩
  try dsimp only [cxOf, Cx.nox, Cx.wish]
  show (_ : TS) _ [some _, some _, none, none, none] _
  o_readsAll
  rename_i N hN rp H1 hrp e1 h1
  rw [rng_len, Int.toNat_natCast]
  refine l_it walk_range (fun D i acc H' => ∃ ps : List Addr, acc = ps.map V.ref ∧ ps.length = i ∧ Same H1 H' ∧ RowsAt H' ps n L fs ∧ ∀ q ∈ ps, H1 q = none) (fun D hD => ⟨[], rfl, rfl, Eg.Same.put (Same.refl _) hD, (fun _ _ h => nomatch h), fun _ h => nomatch h⟩) (fun _ _ _ _ _ _ _ _ => trivial) (fun D i x acc H2 H3 hD hi e l p y => ?_) (fun D acc H' hD e l p => ?_)
  · obtain ⟨ps, rfl, hpl, e2, hR, hfr⟩ := p
    obtain ⟨y1, y2⟩ := y
    subst y1 y2
    refine ⟨rfl, ?_⟩
    have h3 := e2 _ _ h1
    rw [rng_len] at h3
    o_readsAll
    refine l_rngP (fun b => .int (dl i b)) (fun x => rfl) (fun D' b H4 hb hD' e4 h4 => ?_) fun q H4 hq e4 h4 => ?_
    · rw [Int.sub_zero, Int.toNat_natCast] at hb
      o_readsAll
      refine br (fun h => ?_) (fun h => ?_)
      · o_readsAll
        exact g_itemP e4 h4 hD' (by rw [sizeLine_eq]; omega) (by unfold Ld.dl; rw [if_pos (by omega)])
      · o_readsAll
        exact g_itemP e4 h4 hD' (by rw [sizeLine_eq]; omega) (by unfold Ld.dl; rw [if_neg (by omega)])
    · rw [Int.sub_zero, Int.toNat_natCast] at h4
      o_readsAll
      refine c_grown (((hf.same e1).same e2).same e4) h4 hn ok hL hL6 fun r H5 hr5 e5 h5 => ?_
      refine g_item (e5 _ _ (e4 _ _ e)) l (by rw [sizeLine_eq]; omega) ⟨ps ++ [r], by rw [List.map_append]; rfl, by rw [List.length_append, hpl]; rfl, Eg.Same.put ((e2.trans e4).trans e5) hD, RowsAt.snoc ((hR.same e4).same e5) (by rw [hpl]; exact h5) (e5 _ _ (e4 _ _ e)), fun q hq => by
        rcases List.mem_append.mp hq with h | h
        · exact hfr q h
        · rw [List.mem_singleton.mp h]; exact (e2.trans e4).free hr5⟩
  · obtain ⟨ps, rfl, hpl, e2, hR, hfr⟩ := p
    exact k D ps H' (e1.free hD) (e1.trans e2) e hpl hR fun q hq => e1.free (hfr q hq)
end
end L30

namespace L30
open SX Ld
section
variable {P : Program} {w : World} {K : PySem.W.Frag} {mg : Str → Option Value} {base : Heap} {Z : Ad}
def sp_bound (K : PySem.W.Frag) (w : World) (Z : Ad) : Sp := fun vs H Q _ => ∃ (what : Str) (n lim : Int), vs = [.str what, .int n] ∧ KDct K w Z.a_LIMITS what (.int lim) ∧ n ≤ lim ∧ ∀ H', Same H H' → Q .non H'
theorem d_bound (T : Txt K w mg Z) : Dfn P w K mg base 1 "bound" ["what", "number"] (sp_bound K w Z) := by
  obtain ⟨f, fd, F, hm, hb⟩ := T.f_bound
  refine ⟨f, fd, F.ok sc_bound (fun vs H Q E h => by first | (obtain ⟨rfl, _⟩ := h; rfl) | (obtain ⟨_, rfl, _⟩ := h; rfl) | (obtain ⟨_, _, rfl, _⟩ := h; rfl) | (obtain ⟨_, _, _, rfl, _⟩ := h; rfl) | (obtain ⟨_, _, _, _, rfl, _⟩ := h; rfl) | (obtain ⟨_, _, _, _, _, rfl, _⟩ := h; rfl) | (obtain ⟨_, _, _, _, _, _, rfl, _⟩ := h; rfl) | (obtain ⟨_, _, _, _, _, _, _, rfl, _⟩ := h; rfl) | (obtain ⟨_, _, _, _, _, _, _, _, rfl, _⟩ := h; rfl) | (obtain ⟨_, _, _, _, _, _, _, _, _, rfl, _⟩ := h; rfl) | (obtain ⟨_, _, _, _, _, _, _, _, _, _, rfl, _⟩ := h; rfl) | (obtain ⟨_, _, _, _, _, _, _, _, _, _, _, rfl, _⟩ := h; rfl) | (obtain ⟨_, _, _, _, _, _, _, _, _, _, _, _, rfl, _⟩ := h; rfl) | (obtain ⟨_, _, _, _, _, _, _, _, _, _, _, _, _, rfl, _⟩ := h; rfl) | (obtain ⟨_, _, _, _, _, _, _, _, _, _, _, _, _, _, rfl, _⟩ := h; rfl) | (obtain ⟨_, _, _, _, _, _, _, _, _, _, _, _, _, _, _, rfl, _⟩ := h; rfl) | (obtain ⟨_, _, _, _, _, _, _, _, _, _, _, _, _, _, _, _, rfl, _⟩ := h; rfl)) (fun cdv A outer s H vs Q E hr h => ?_), hm, F.kp, hb⟩
  obtain ⟨what, n, lim, rfl, hd, hl, k⟩ := h
  refine ⟨_, (pss_one (ps_if (pt_cmpR op_gt (pv 1) (pe_ix ix_kdict (pe_gr T.c_LIMITS) (pv 0) (fun _ _ => rfl)) (nomark _)) (pss_one ps_never) pss_nil)), ?_⟩
  try dsimp only [cxOf, Cx.nox, Cx.wish]
  show (_ : TS) _ [some _, some _] _
  o_readsAll
  refine g_kd hd ?_
  o_readsAll
  refine br (fun h => absurd h (by omega)) (fun _ => ?_)
  o_readsAll
  exact k _ (Same.refl _)
theorem c_bound {what : Str} {n lim : Int} {H : Hp} {Q : VK} {E : XK} (hd : KDct K w Z.a_LIMITS what (.int lim)) (hl : n ≤ lim) (k : ∀ H', Same H H' → Q .non H') : sp_bound K w Z [.str what, .int n] H Q E := ⟨what, n, lim, rfl, hd, hl, k⟩
/-- a demand -/
def DemAt (C : Addr) (H : Hp) (d : Addr) (c dr hu st : Int) : Prop := ∃ dx, H d = some (.ins C dx [("crowns_number", .int c), ("drops_number", .int dr), ("hung_number", .int hu), ("struck_number", .int st)])
theorem DemAt.same {C : Addr} {H H' : Hp} {d : Addr} {c dr hu st : Int} (h : DemAt C H d c dr hu st) (e : Same H H') : DemAt C H' d c dr hu st := by
  obtain ⟨dx, h⟩ := h
  exact ⟨dx, e _ _ h⟩
def sp_deinit (C : Addr) : Sp := fun vs H Q _ => ∃ (x dx : Addr) (c dr hu st : Int), vs = [.ref x, .int c, .int dr, .int hu, .int st] ∧ H x = some (.ins C dx []) ∧ 1 ≤ c ∧ 0 ≤ dr ∧ 0 ≤ hu ∧ 0 ≤ st ∧ ∀ H', Off x H H' → DemAt C H' x c dr hu st → Q .non H'
def sp_dcr (C : Addr) (f : Int → Int → Int → Int → Int) : Sp := fun vs H Q _ => ∃ (d : Addr) (c dr hu st : Int), vs = [.ref d] ∧ DemAt C H d c dr hu st ∧ Q (.int (f c dr hu st)) H
end
end L30

namespace L30
open SX Ld
section
variable {P : Program} {w : World} {K : PySem.W.Frag} {mg : Str → Option Value} {base : Heap} {Z : Ad}
def LadAt (C : Addr) (H : Hp) (l : Addr) (L : Int) (n : Nat) (fs : Nat → Int) (ret : Bool) : Prop := ∃ (dx fl lt hl wl : Addr) (ps : List Addr), H l = some (.ins C dx [("lanes_number", .int L), ("falls_list", .ref fl), ("returns_kept", .bl ret), ("loads_table", .ref lt), ("heads_list", .ref hl), ("worths_list", .ref wl)]) ∧ IL H fl n fs ∧ H lt = some (.lst (ps.map V.ref)) ∧ ps.length = n ∧ RowsAt H ps n L fs ∧ IL H hl (n + 1) (hd L fs) ∧ IL H wl (n + 1) (wd L fs)
theorem LadAt.same {C : Addr} {H H' : Hp} {l : Addr} {L : Int} {n : Nat} {fs : Nat → Int} {ret : Bool} (h : LadAt C H l L n fs ret) (e : Same H H') : LadAt C H' l L n fs ret := by
  obtain ⟨dx, fl, lt, hl, wl, ps, a, b, c, d, f, g, i⟩ := h
  exact ⟨dx, fl, lt, hl, wl, ps, e _ _ a, b.same e, e _ _ c, d, f.same e, g.same e, i.same e⟩
/-- a ladder whose parts are all new -/
def LadFr (C : Addr) (H0 H : Hp) (l : Addr) (L : Int) (n : Nat) (fs : Nat → Int) (ret : Bool) : Prop := ∃ (dx fl lt hl wl : Addr) (ps : List Addr), (H l = some (.ins C dx [("lanes_number", .int L), ("falls_list", .ref fl), ("returns_kept", .bl ret), ("loads_table", .ref lt), ("heads_list", .ref hl), ("worths_list", .ref wl)]) ∧ IL H fl n fs ∧ H lt = some (.lst (ps.map V.ref)) ∧ ps.length = n ∧ RowsAt H ps n L fs ∧ IL H hl (n + 1) (hd L fs) ∧ IL H wl (n + 1) (wd L fs)) ∧ H0 fl = none ∧ H0 lt = none ∧ H0 hl = none ∧ H0 wl = none ∧ ∀ q ∈ ps, H0 q = none
theorem LadFr.at {C : Addr} {H0 H : Hp} {l : Addr} {L : Int} {n : Nat} {fs : Nat → Int} {ret : Bool} (h : LadFr C H0 H l L n fs ret) : LadAt C H l L n fs ret := by
  obtain ⟨dx, fl, lt, hl, wl, ps, h1, h2⟩ := h
  exact ⟨dx, fl, lt, hl, wl, ps, h1⟩
theorem LadFr.mono {C : Addr} {H1 H0 H : Hp} {l : Addr} {L : Int} {n : Nat} {fs : Nat → Int} {ret : Bool} (h : LadFr C H0 H l L n fs ret) (e : Same H1 H0) : LadFr C H1 H l L n fs ret := by
  obtain ⟨dx, fl, lt, hl, wl, ps, a, f1, f2, f3, f4, f5⟩ := h
  exact ⟨dx, fl, lt, hl, wl, ps, a, e.free f1, e.free f2, e.free f3, e.free f4, fun q hq => e.free (f5 q hq)⟩
theorem LadFr.same {C : Addr} {H0 H H' : Hp} {l : Addr} {L : Int} {n : Nat} {fs : Nat → Int} {ret : Bool} (h : LadFr C H0 H l L n fs ret) (e : Same H H') : LadFr C H0 H' l L n fs ret := by
  obtain ⟨dx, fl, lt, hl, wl, ps, ⟨a, b, c, d, f, g, i⟩, h2⟩ := h
  exact ⟨dx, fl, lt, hl, wl, ps, ⟨e _ _ a, b.same e, e _ _ c, d, f.same e, g.same e, i.same e⟩, h2⟩
theorem LadFr.off {C s : Addr} {H0 H H' : Hp} {l : Addr} {L : Int} {n : Nat} {fs : Nat → Int} {ret : Bool} {u : HO} (h : LadFr C H0 H l L n fs ret) (hs : H0 s = some u) (nl : l ≠ s) (o : Off s H H') : LadFr C H0 H' l L n fs ret := by
  obtain ⟨dx, fl, lt, hl, wl, ps, ⟨a, b, c, d, f, g, i⟩, f1, f2, f3, f4, f5⟩ := h
  have ne : ∀ {x : Addr}, H0 x = none → x ≠ s := fun hx => (ne_of_none hs hx).symm
  exact ⟨dx, fl, lt, hl, wl, ps, ⟨o _ _ nl a, o _ _ (ne f1) b, o _ _ (ne f2) c, d, fun j q hq => o _ _ (ne (f5 q (List.mem_of_getElem? hq))) (f j q hq), o _ _ (ne f3) g, o _ _ (ne f4) i⟩, f1, f2, f3, f4, f5⟩
def sp_wrung (K : PySem.W.Frag) : Sp := fun vs H Q _ => ∃ (L : Int) (fl : Addr) (n : Nat) (fs : Nat → Int), vs = [.int L, .ref fl] ∧ IL H fl n fs ∧ 2 ≤ L ∧ 0 < n ∧ n ≤ 40 ∧ OkF fs ∧ ∀ H', Same H H' → Q .non H'
theorem d_wrong_rung (T : Txt K w mg Z) : Dfn P w K mg base 1 "wrong_rung" ["lanes", "falls"] (sp_wrung K) := by
  obtain ⟨f, fd, F, hm, hb⟩ := T.f_wrong_rung
  refine ⟨f, fd, F.ok sc_wrong_rung (fun vs H Q E h => by first | (obtain ⟨rfl, _⟩ := h; rfl) | (obtain ⟨_, rfl, _⟩ := h; rfl) | (obtain ⟨_, _, rfl, _⟩ := h; rfl) | (obtain ⟨_, _, _, rfl, _⟩ := h; rfl) | (obtain ⟨_, _, _, _, rfl, _⟩ := h; rfl) | (obtain ⟨_, _, _, _, _, rfl, _⟩ := h; rfl) | (obtain ⟨_, _, _, _, _, _, rfl, _⟩ := h; rfl) | (obtain ⟨_, _, _, _, _, _, _, rfl, _⟩ := h; rfl) | (obtain ⟨_, _, _, _, _, _, _, _, rfl, _⟩ := h; rfl) | (obtain ⟨_, _, _, _, _, _, _, _, _, rfl, _⟩ := h; rfl) | (obtain ⟨_, _, _, _, _, _, _, _, _, _, rfl, _⟩ := h; rfl) | (obtain ⟨_, _, _, _, _, _, _, _, _, _, _, rfl, _⟩ := h; rfl) | (obtain ⟨_, _, _, _, _, _, _, _, _, _, _, _, rfl, _⟩ := h; rfl) | (obtain ⟨_, _, _, _, _, _, _, _, _, _, _, _, _, rfl, _⟩ := h; rfl) | (obtain ⟨_, _, _, _, _, _, _, _, _, _, _, _, _, _, rfl, _⟩ := h; rfl) | (obtain ⟨_, _, _, _, _, _, _, _, _, _, _, _, _, _, _, rfl, _⟩ := h; rfl) | (obtain ⟨_, _, _, _, _, _, _, _, _, _, _, _, _, _, _, _, rfl, _⟩ := h; rfl)) (fun cdv A outer s H vs Q E hr h => ?_), hm, F.kp, hb⟩
  obtain ⟨L, fl, n, fs, rfl, hf, hL, h0, hn, ok, k⟩ := h
  have hfe : (rng n fs).isEmpty = false := by
    cases n with
    | zero => omega
    | succ m => rw [rng_succ]; simp
  refine ⟨_, (pss_cons (ps_if (PW.pt (pw_or (pt_cmpR op_lt (pv 0) pe_int (nomark _)) (pw_or1 (pt_not (pt_u (pv 1)))))) (pss_one (ps_ret (pe_un un_neg pe_int))) pss_nil)
      (pss_cons (ps_for PassesOwn.never rfl (pi_enum (by rfl) T.b_enumerate (pa_cons (pv 1) pa_nil)) (pg_tup (by rfl) (pgs_cons (pg_name (i := 2) sc_wrong_rung.nd rfl (.inl rfl)) (pgs_cons (pg_name (i := 3) sc_wrong_rung.nd rfl (.inl rfl)) pgs_nil)))
        (pss_cons (ps_set (i := 4) sc_wrong_rung.nd rfl (.inl rfl) (pe_ifExp (pt_cmpR op_gt (pv 2) pe_int (nomark _)) (pe_op op_sub (pv 2) pe_int) pe_int))
      (pss_one (ps_if (pt_not (pt_chain op_le op_le (pe_gi T.c_OUT) (pv 3) (pv 4))) (pss_one (ps_ret (pv 2))) pss_nil))))
      (pss_one (ps_ret pe_non)))), ?_⟩
  try dsimp only [cxOf, Cx.nox, Cx.wish]
  show (_ : TS) _ [some _, some _, none, none, none] _
  o_readsAll
  refine brF (decide_eq_false (by omega)) ?_
  o_readsAll
  refine g_truL hf.sq ?_
  rw [hfe]
  o_readsAll
  refine brF rfl ?_
  o_readsAll
  refine f_enum (xs := rng n fs) (fun i σ' H' => ∃ a b d, σ' = [some (.int L), some (.ref fl), a, b, d] ∧ Same H H') ⟨_, _, _, rfl, Same.refl _⟩ ?_ ?_ ?_
  · rintro i σ' H2 hi ⟨a, b, d, rfl, e2⟩
    exact (hf.same e2).sq
  · rintro i y σ' H2 T1 H3 hy ⟨a, b, d, rfl, e2⟩ hT e3 h3
    have hi : i < n := by have := (List.getElem?_eq_some_iff.mp hy).1; rw [rng_len] at this; exact this
    rw [rng_at hi] at hy
    cases hy
    have okf := ok i
    o_readsAll
    refine jnE (fun y H' => ∃ t : Int, y = .int t ∧ H' = H3 ∧ fs i ≤ t) ?_ (fun Q' hQ => br (fun h => ?_) (fun h => ?_))
    · rintro y H' ⟨t, rfl, rfl, ht⟩
      o_readsAll
      refine ⟨_, rfl, ?_⟩
      refine brT (decide_eq_true (by omega)) ?_
      o_readsAll
      refine brF (by rw [decide_eq_true ht]; rfl) ?_
      o_readsAll
      exact ⟨_, _, _, rfl, e2.trans e3⟩
    · o_readsAll
      exact hQ _ _ ⟨_, rfl, rfl, by omega⟩
    · o_readsAll
      exact hQ _ _ ⟨_, rfl, rfl, by omega⟩
  · rintro σ' H2 ⟨a, b, d, rfl, e2⟩
    o_readsAll
    exact k _ e2
theorem c_row {c : Int} {v : Int → (Nat → Int) → Nat → Int} {L : Int} {fl : Addr} {n : Nat} {fs : Nat → Int} {H : Hp} {Q : VK} {E : XK} (hf : IL H fl n fs) (hn : n ≤ 40) (ok : OkF fs) (hL : 0 ≤ L) (hL6 : L ≤ 6) (k : ∀ p H', H p = none → Same H H' → IL H' p (n + 1) (v L fs) → Q (.ref p) H') : sp_row c v [.int L, .ref fl] H Q E := ⟨L, fl, n, fs, rfl, hf, hn, ok, hL, hL6, k⟩
theorem c_lrows {L : Int} {fl : Addr} {n : Nat} {fs : Nat → Int} {H : Hp} {Q : VK} {E : XK} (hf : IL H fl n fs) (hn : n ≤ 40) (ok : OkF fs) (hL : 0 ≤ L) (hL6 : L ≤ 6) (k : ∀ p ps H', H p = none → Same H H' → H' p = some (.lst (ps.map V.ref)) → ps.length = n → RowsAt H' ps n L fs → (∀ q ∈ ps, H q = none) → Q (.ref p) H') : sp_lrows [.int L, .ref fl] H Q E := ⟨L, fl, n, fs, rfl, hf, hn, ok, hL, hL6, k⟩
theorem c_wrung {L : Int} {fl : Addr} {n : Nat} {fs : Nat → Int} {H : Hp} {Q : VK} {E : XK} (hf : IL H fl n fs) (hL : 2 ≤ L) (h0 : 0 < n) (hn : n ≤ 40) (ok : OkF fs) (k : ∀ H', Same H H' → Q .non H') : sp_wrung K [.int L, .ref fl] H Q E := ⟨L, fl, n, fs, rfl, hf, hL, h0, hn, ok, k⟩
def sp_linit (C : Addr) : Sp := fun vs H Q _ => ∃ (x dx fl : Addr) (L : Int) (n : Nat) (fs : Nat → Int) (ret : Bool), vs = [.ref x, .int L, .ref fl, .bl ret] ∧ H x = some (.ins C dx []) ∧ IL H fl n fs ∧ x ≠ fl ∧ 2 ≤ L ∧ L ≤ 6 ∧ 0 < n ∧ n ≤ 40 ∧ OkF fs ∧ ∀ H', Off x H H' → LadFr C H H' x L n fs ret → Q .non H'
theorem d_Ladder_init (T : Txt K w mg Z) : Ini P w K mg base 3 "Ladder" Z.a_Ladder ["self", "lanes", "falls", "returns"] (sp_linit Z.a_Ladder) := by
  obtain ⟨f, fd, F, hM, hm, hb⟩ := T.f_Ladder_init
  refine ⟨f, fd, F.ok sc_Ladder_init (fun vs H Q E h => by first | (obtain ⟨rfl, _⟩ := h; rfl) | (obtain ⟨_, rfl, _⟩ := h; rfl) | (obtain ⟨_, _, rfl, _⟩ := h; rfl) | (obtain ⟨_, _, _, rfl, _⟩ := h; rfl) | (obtain ⟨_, _, _, _, rfl, _⟩ := h; rfl) | (obtain ⟨_, _, _, _, _, rfl, _⟩ := h; rfl) | (obtain ⟨_, _, _, _, _, _, rfl, _⟩ := h; rfl) | (obtain ⟨_, _, _, _, _, _, _, rfl, _⟩ := h; rfl) | (obtain ⟨_, _, _, _, _, _, _, _, rfl, _⟩ := h; rfl) | (obtain ⟨_, _, _, _, _, _, _, _, _, rfl, _⟩ := h; rfl) | (obtain ⟨_, _, _, _, _, _, _, _, _, _, rfl, _⟩ := h; rfl) | (obtain ⟨_, _, _, _, _, _, _, _, _, _, _, rfl, _⟩ := h; rfl) | (obtain ⟨_, _, _, _, _, _, _, _, _, _, _, _, rfl, _⟩ := h; rfl) | (obtain ⟨_, _, _, _, _, _, _, _, _, _, _, _, _, rfl, _⟩ := h; rfl) | (obtain ⟨_, _, _, _, _, _, _, _, _, _, _, _, _, _, rfl, _⟩ := h; rfl) | (obtain ⟨_, _, _, _, _, _, _, _, _, _, _, _, _, _, _, rfl, _⟩ := h; rfl) | (obtain ⟨_, _, _, _, _, _, _, _, _, _, _, _, _, _, _, _, rfl, _⟩ := h; rfl)) (fun cdv A outer s H vs Q E hr h => ?_), hM, hm, hb⟩
  obtain ⟨x, dx, fl, L, n, fs, ret, rfl, hx, hf, nf, hL, hL6, h0, hn, ok, k⟩ := h
  have k1 := T.k_LIMITS_lanes
  have k2 := T.k_LIMITS_rungs
  have D_bound := d_bound (P := P) (base := base) T
  have D_wrong_rung := d_wrong_rung (P := P) (base := base) T
  have D_load_rows := d_load_rows (P := P) (base := base) T
  have D_head_row := d_head_row (P := P) (base := base) T
  have D_worth_row := d_worth_row (P := P) (base := base) T
  have l_Ladder := T.l_Ladder
  have n_Ladder_lanes_number := T.n_Ladder_lanes_number
  have n_Ladder_falls_list := T.n_Ladder_falls_list
  have n_Ladder_returns_kept := T.n_Ladder_returns_kept
  have n_Ladder_loads_table := T.n_Ladder_loads_table
  have n_Ladder_heads_list := T.n_Ladder_heads_list
  have n_Ladder_worths_list := T.n_Ladder_worths_list
  refine ⟨_, (pss_cons (ps_expr (pe_dfn D_bound (hr.mono (by decide)) (by rfl) (pa_cons pe_str (pa_cons (pv 1) pa_nil))))
      (pss_cons (ps_expr (pe_dfn D_bound (hr.mono (by decide)) (by rfl) (pa_cons pe_str (pa_cons (pe_callB call_uLen (by rfl) T.b_len bt_len (pa_cons (pv 2) pa_nil)) pa_nil))))
      (pss_cons (ps_set (i := 4) sc_Ladder_init.nd rfl (.inl rfl) (pe_dfn D_wrong_rung (hr.mono (by decide)) (by rfl) (pa_cons (pv 1) (pa_cons (pv 2) pa_nil))))
      (pss_cons (ps_if (pt_cmpR op_uNotN (pv 4) pe_non (nomark _)) (pss_one ps_never) pss_nil)
      (pss_cons (ps_fld (pv 0) (pv 1) rfl)
      (pss_cons (ps_fld (pv 0) (pe_callTy call_uList (by rfl) T.b_list bt_list (pa_cons (pv 2) pa_nil)) rfl)
      (pss_cons (ps_fld (pv 0) (pv 3) rfl)
      (pss_cons (ps_fld (pv 0) (pe_dfn D_load_rows (hr.mono (by decide)) (by rfl) (pa_cons (pv 1) (pa_cons (pv 2) pa_nil))) rfl)
      (pss_cons (ps_fld (pv 0) (pe_dfn D_head_row (hr.mono (by decide)) (by rfl) (pa_cons (pv 1) (pa_cons (pv 2) pa_nil))) rfl)
      (pss_one (ps_fld (pv 0) (pe_dfn D_worth_row (hr.mono (by decide)) (by rfl) (pa_cons (pv 1) (pa_cons (pv 2) pa_nil))) rfl))))))))))), ?_⟩
  try dsimp only [cxOf, Cx.nox, Cx.wish]
  show (_ : TS) _ [some _, some _, some _, some _, none] _
  o_readsAll
  refine c_bound k1 hL6 fun H1 e1 => ?_
  have hf1 := hf.same e1
  o_readsAll
  refine c_bound k2 (by rw [rng_len]; omega) fun H2 e2 => ?_
  have hf2 := hf1.same e2
  o_readsAll
  refine c_wrung hf2 hL h0 hn ok fun H3 e3 => ?_
  have hf3 : H3 fl = some (.lst (rng n fs)) := hf2.same e3
  have hx3 := e3 _ _ (e2 _ _ (e1 _ _ hx))
  o_readsAll
  rename_i fl2 H4 ff e4 h4 N1 hN1 N2 hN2
  have hf4 : H4 fl = some (.lst (rng n fs)) := by o_shape
  have nf2 : x ≠ fl2 := ne_of_none upd_same ff
  refine c_lrows (by unfold IL; o_shape) hn ok (by omega) hL6 fun lt ps H5 flt e5 h5 hpl hR hfr => ?_
  have nlt : x ≠ lt := (ne_of_none upd_same flt)
  have nps : ∀ q ∈ ps, q ≠ x := fun q hq => by
    obtain ⟨a, ha, rfl⟩ := List.mem_iff_getElem.mp hq
    exact ne_of (hR a _ (List.getElem?_eq_getElem ha)) (e5 _ _ upd_same) (by intro z; cases z)
  have hf5 : H5 fl = some (.lst (rng n fs)) := by o_shape
  have hx5 := e5 _ _ upd_same
  o_readsAll
  refine c_row (by unfold IL; o_shape) hn ok (by omega) hL6 fun hp H6 fhp e6 h6 => ?_
  have nhp : x ≠ hp := ne_of_none upd_same fhp
  have hf6 : H6 fl = some (.lst (rng n fs)) := by o_shape
  have hx6 := e6 _ _ upd_same
  o_readsAll
  refine c_row (by unfold IL; o_shape) hn ok (by omega) hL6 fun wp H7 fwp e7 h7 => ?_
  have nwp : x ≠ wp := ne_of_none upd_same fwp
  have hx7 := e7 _ _ upd_same
  o_readsAll
  have o3 : Off x H H3 := off_of ((e1.trans e2).trans e3)
  refine k _ ((((((((((((o3.upd).same e4).upd).upd).same e5).upd).same e6).upd).same e7).upd))) ⟨dx, fl2, lt, hp, wp, ps, ⟨upd_same, ?_, ?_, hpl, ?_, ?_, ?_⟩, ?_, ?_, ?_, ?_, ?_⟩
  · unfold IL
    o_shape
  · o_shape
  · intro a q hq
    have nq := nps q (List.mem_of_getElem? hq)
    have h := hR a q hq
    unfold IL at h ⊢
    o_shape
  · unfold IL at h6 ⊢
    o_shape
  · unfold IL at h7 ⊢
    o_shape
  · exact ((e1.trans e2).trans e3).free (upd_none ff)
  · exact ((e1.trans e2).trans e3).free (upd_none (e4.free (upd_none (upd_none flt))))
  · exact ((e1.trans e2).trans e3).free (upd_none (e4.free (upd_none (upd_none (e5.free (upd_none fhp))))))
  · exact ((e1.trans e2).trans e3).free (upd_none (e4.free (upd_none (upd_none (e5.free (upd_none (e6.free (upd_none fwp))))))))
  · exact fun q hq => ((e1.trans e2).trans e3).free (upd_none (e4.free (upd_none (upd_none (hfr q hq)))))
theorem c_lmake {C fl : Addr} {L : Int} {n : Nat} {fs : Nat → Int} {ret : Bool} {H : Hp} {Q : VK} {E : XK} (hf : IL H fl n fs) (hL : 2 ≤ L) (hL6 : L ≤ 6) (h0 : 0 < n) (hn : n ≤ 40) (ok : OkF fs) (k : ∀ l H', H l = none → Same H H' → LadFr C H H' l L n fs ret → Q (.ref l) H') : gMake C (sp_linit C) E [.int L, .ref fl, .bl ret] H Q := by
  intro x dx hx hdx hne
  have n1 : fl ≠ x := ne_of_none hf hx
  have n2 : fl ≠ dx := ne_of_none hf hdx
  refine ⟨x, dx, fl, L, n, fs, ret, rfl, upd_same, by unfold IL; rw [upd_ne n1, upd_ne n2]; exact hf, n1.symm, hL, hL6, h0, hn, ok, fun H' o hl => ⟨rfl, k x H' hx (fun b u q => o b u (ne_of_none q hx) ?_) ?_⟩⟩
  · rw [upd_ne (ne_of_none q hx), upd_ne (ne_of_none q hdx)]
    exact q
  · obtain ⟨dx2, fl2, lt, hh, wl, ps, a, f1, f2, f3, f4, f5⟩ := hl
    exact ⟨dx2, fl2, lt, hh, wl, ps, a, upd_none (upd_none f1), upd_none (upd_none f2), upd_none (upd_none f3), upd_none (upd_none f4), fun q hq => upd_none (upd_none (f5 q hq))⟩
def sp_lnum (C : Addr) (f : Int → Nat → Bool → V) : Sp := fun vs H Q _ => ∃ (l : Addr) (L : Int) (n : Nat) (fs : Nat → Int) (ret : Bool), vs = [.ref l] ∧ LadAt C H l L n fs ret ∧ Q (f L n ret) H
theorem d_Ladder_lanes (T : Txt K w mg Z) : Mth P w K mg base 1 Z.a_Ladder "lanes" ["self"] (sp_lnum Z.a_Ladder fun L _ _ => .int L) := by
  obtain ⟨f, fd, F, hm, hb⟩ := T.f_Ladder_lanes
  refine ⟨⟨f, fd, F.ok sc_Ladder_lanes (fun vs H Q E h => by first | (obtain ⟨rfl, _⟩ := h; rfl) | (obtain ⟨_, rfl, _⟩ := h; rfl) | (obtain ⟨_, _, rfl, _⟩ := h; rfl) | (obtain ⟨_, _, _, rfl, _⟩ := h; rfl) | (obtain ⟨_, _, _, _, rfl, _⟩ := h; rfl) | (obtain ⟨_, _, _, _, _, rfl, _⟩ := h; rfl) | (obtain ⟨_, _, _, _, _, _, rfl, _⟩ := h; rfl) | (obtain ⟨_, _, _, _, _, _, _, rfl, _⟩ := h; rfl) | (obtain ⟨_, _, _, _, _, _, _, _, rfl, _⟩ := h; rfl) | (obtain ⟨_, _, _, _, _, _, _, _, _, rfl, _⟩ := h; rfl) | (obtain ⟨_, _, _, _, _, _, _, _, _, _, rfl, _⟩ := h; rfl) | (obtain ⟨_, _, _, _, _, _, _, _, _, _, _, rfl, _⟩ := h; rfl) | (obtain ⟨_, _, _, _, _, _, _, _, _, _, _, _, rfl, _⟩ := h; rfl) | (obtain ⟨_, _, _, _, _, _, _, _, _, _, _, _, _, rfl, _⟩ := h; rfl) | (obtain ⟨_, _, _, _, _, _, _, _, _, _, _, _, _, _, rfl, _⟩ := h; rfl) | (obtain ⟨_, _, _, _, _, _, _, _, _, _, _, _, _, _, _, rfl, _⟩ := h; rfl) | (obtain ⟨_, _, _, _, _, _, _, _, _, _, _, _, _, _, _, _, rfl, _⟩ := h; rfl)) (fun cdv A outer s H vs Q E hr h => ?_), hm, hb⟩, T.l_Ladder⟩
  obtain ⟨l, L, n, fs, ret, rfl, ⟨dx, fl, lt, hl, wl, ps, h1, h2, h3, h4, h5, h6, h7⟩, k⟩ := h
  have l_Ladder := T.l_Ladder
  have n_Ladder_lanes_number := T.n_Ladder_lanes_number
  refine ⟨_, (pss_one (ps_ret (pe_fld (pv 0) rfl))), ?_⟩
  try dsimp only [cxOf, Cx.nox, Cx.wish]
  show (_ : TS) _ [some _] _
  o_readsAll
theorem d_Ladder_rungs (T : Txt K w mg Z) : Mth P w K mg base 1 Z.a_Ladder "rungs" ["self"] (sp_lnum Z.a_Ladder fun _ n _ => .int (n : Int)) := by
  obtain ⟨f, fd, F, hm, hb⟩ := T.f_Ladder_rungs
  refine ⟨⟨f, fd, F.ok sc_Ladder_rungs (fun vs H Q E h => by first | (obtain ⟨rfl, _⟩ := h; rfl) | (obtain ⟨_, rfl, _⟩ := h; rfl) | (obtain ⟨_, _, rfl, _⟩ := h; rfl) | (obtain ⟨_, _, _, rfl, _⟩ := h; rfl) | (obtain ⟨_, _, _, _, rfl, _⟩ := h; rfl) | (obtain ⟨_, _, _, _, _, rfl, _⟩ := h; rfl) | (obtain ⟨_, _, _, _, _, _, rfl, _⟩ := h; rfl) | (obtain ⟨_, _, _, _, _, _, _, rfl, _⟩ := h; rfl) | (obtain ⟨_, _, _, _, _, _, _, _, rfl, _⟩ := h; rfl) | (obtain ⟨_, _, _, _, _, _, _, _, _, rfl, _⟩ := h; rfl) | (obtain ⟨_, _, _, _, _, _, _, _, _, _, rfl, _⟩ := h; rfl) | (obtain ⟨_, _, _, _, _, _, _, _, _, _, _, rfl, _⟩ := h; rfl) | (obtain ⟨_, _, _, _, _, _, _, _, _, _, _, _, rfl, _⟩ := h; rfl) | (obtain ⟨_, _, _, _, _, _, _, _, _, _, _, _, _, rfl, _⟩ := h; rfl) | (obtain ⟨_, _, _, _, _, _, _, _, _, _, _, _, _, _, rfl, _⟩ := h; rfl) | (obtain ⟨_, _, _, _, _, _, _, _, _, _, _, _, _, _, _, rfl, _⟩ := h; rfl) | (obtain ⟨_, _, _, _, _, _, _, _, _, _, _, _, _, _, _, _, rfl, _⟩ := h; rfl)) (fun cdv A outer s H vs Q E hr h => ?_), hm, hb⟩, T.l_Ladder⟩
  obtain ⟨l, L, n, fs, ret, rfl, ⟨dx, fl, lt, hl, wl, ps, h1, h2, h3, h4, h5, h6, h7⟩, k⟩ := h
  unfold IL at h2
  have l_Ladder := T.l_Ladder
  have n_Ladder_falls_list := T.n_Ladder_falls_list
  refine ⟨_, (pss_one (ps_ret (pe_callB call_uLen (by rfl) T.b_len bt_len (pa_cons (pe_fld (pv 0) rfl) pa_nil)))), ?_⟩
  try dsimp only [cxOf, Cx.nox, Cx.wish]
  show (_ : TS) _ [some _] _
  o_readsAll
  rw [rng_len]
  exact k
theorem d_Ladder_returns (T : Txt K w mg Z) : Mth P w K mg base 1 Z.a_Ladder "returns" ["self"] (sp_lnum Z.a_Ladder fun _ _ ret => .bl ret) := by
  obtain ⟨f, fd, F, hm, hb⟩ := T.f_Ladder_returns
  refine ⟨⟨f, fd, F.ok sc_Ladder_returns (fun vs H Q E h => by first | (obtain ⟨rfl, _⟩ := h; rfl) | (obtain ⟨_, rfl, _⟩ := h; rfl) | (obtain ⟨_, _, rfl, _⟩ := h; rfl) | (obtain ⟨_, _, _, rfl, _⟩ := h; rfl) | (obtain ⟨_, _, _, _, rfl, _⟩ := h; rfl) | (obtain ⟨_, _, _, _, _, rfl, _⟩ := h; rfl) | (obtain ⟨_, _, _, _, _, _, rfl, _⟩ := h; rfl) | (obtain ⟨_, _, _, _, _, _, _, rfl, _⟩ := h; rfl) | (obtain ⟨_, _, _, _, _, _, _, _, rfl, _⟩ := h; rfl) | (obtain ⟨_, _, _, _, _, _, _, _, _, rfl, _⟩ := h; rfl) | (obtain ⟨_, _, _, _, _, _, _, _, _, _, rfl, _⟩ := h; rfl) | (obtain ⟨_, _, _, _, _, _, _, _, _, _, _, rfl, _⟩ := h; rfl) | (obtain ⟨_, _, _, _, _, _, _, _, _, _, _, _, rfl, _⟩ := h; rfl) | (obtain ⟨_, _, _, _, _, _, _, _, _, _, _, _, _, rfl, _⟩ := h; rfl) | (obtain ⟨_, _, _, _, _, _, _, _, _, _, _, _, _, _, rfl, _⟩ := h; rfl) | (obtain ⟨_, _, _, _, _, _, _, _, _, _, _, _, _, _, _, rfl, _⟩ := h; rfl) | (obtain ⟨_, _, _, _, _, _, _, _, _, _, _, _, _, _, _, _, rfl, _⟩ := h; rfl)) (fun cdv A outer s H vs Q E hr h => ?_), hm, hb⟩, T.l_Ladder⟩
  obtain ⟨l, L, n, fs, ret, rfl, ⟨dx, fl, lt, hl, wl, ps, h1, h2, h3, h4, h5, h6, h7⟩, k⟩ := h
  have l_Ladder := T.l_Ladder
  have n_Ladder_returns_kept := T.n_Ladder_returns_kept
  refine ⟨_, (pss_one (ps_ret (pe_fld (pv 0) rfl))), ?_⟩
  try dsimp only [cxOf, Cx.nox, Cx.wish]
  show (_ : TS) _ [some _] _
  o_readsAll
/-- told weights are new lists -/
structure WFr (H : Hp) (lp hp wp : Addr) (ps : List Addr) : Prop where
  l : H lp = none
  h : H hp = none
  w : H wp = none
  p : ∀ q ∈ ps, H q = none ∧ q ≠ lp ∧ q ≠ hp ∧ q ≠ wp
  lh : lp ≠ hp
  lw : lp ≠ wp
  hw : hp ≠ wp
def sp_weights (C : Addr) : Sp := fun vs H Q _ => ∃ (l : Addr) (L : Int) (n : Nat) (fs : Nat → Int) (ret : Bool), vs = [.ref l] ∧ LadAt C H l L n fs ret ∧ n ≤ 40 ∧ ∀ H' p lp hp wp ps, Same H H' → H' p = some (.tup [.ref lp, .ref hp, .ref wp]) → H' lp = some (.lst (ps.map V.ref)) → ps.length = n → RowsAt H' ps n L fs → IL H' hp (n + 1) (hd L fs) → IL H' wp (n + 1) (wd L fs) → WFr H lp hp wp ps → Q (.ref p) H'
theorem d_Ladder_weights (T : Txt K w mg Z) : Mth P w K mg base 1 Z.a_Ladder "weights" ["self"] (sp_weights Z.a_Ladder) := by
  obtain ⟨f, fd, F, hm, hb⟩ := T.f_Ladder_weights
  refine ⟨⟨f, fd, F.ok sc_Ladder_weights (fun vs H Q E h => by first | (obtain ⟨rfl, _⟩ := h; rfl) | (obtain ⟨_, rfl, _⟩ := h; rfl) | (obtain ⟨_, _, rfl, _⟩ := h; rfl) | (obtain ⟨_, _, _, rfl, _⟩ := h; rfl) | (obtain ⟨_, _, _, _, rfl, _⟩ := h; rfl) | (obtain ⟨_, _, _, _, _, rfl, _⟩ := h; rfl) | (obtain ⟨_, _, _, _, _, _, rfl, _⟩ := h; rfl) | (obtain ⟨_, _, _, _, _, _, _, rfl, _⟩ := h; rfl) | (obtain ⟨_, _, _, _, _, _, _, _, rfl, _⟩ := h; rfl) | (obtain ⟨_, _, _, _, _, _, _, _, _, rfl, _⟩ := h; rfl) | (obtain ⟨_, _, _, _, _, _, _, _, _, _, rfl, _⟩ := h; rfl) | (obtain ⟨_, _, _, _, _, _, _, _, _, _, _, rfl, _⟩ := h; rfl) | (obtain ⟨_, _, _, _, _, _, _, _, _, _, _, _, rfl, _⟩ := h; rfl) | (obtain ⟨_, _, _, _, _, _, _, _, _, _, _, _, _, rfl, _⟩ := h; rfl) | (obtain ⟨_, _, _, _, _, _, _, _, _, _, _, _, _, _, rfl, _⟩ := h; rfl) | (obtain ⟨_, _, _, _, _, _, _, _, _, _, _, _, _, _, _, rfl, _⟩ := h; rfl) | (obtain ⟨_, _, _, _, _, _, _, _, _, _, _, _, _, _, _, _, rfl, _⟩ := h; rfl)) (fun cdv A outer s H vs Q E hr h => ?_), hm, hb⟩, T.l_Ladder⟩
  obtain ⟨l, L, n, fs, ret, rfl, ⟨dx, fl, lt, hl, wl, ps, h1, h2, h3, h4, h5, h6, h7⟩, hn, k⟩ := h
  unfold IL at h6 h7
  have l_Ladder := T.l_Ladder
  have n_Ladder_loads_table := T.n_Ladder_loads_table
  have n_Ladder_heads_list := T.n_Ladder_heads_list
  have n_Ladder_worths_list := T.n_Ladder_worths_list
  refine ⟨_, (pss_one (ps_ret (pe_tup (pa_cons (pe_lc (own := [("row", 1)]) (by rfl) sc_Ladder_weights.nd (pi_list (pe_fld (pv 0) rfl)) (blkOk_by (N := n_Ladder_weights) (sc := defScope st_Ladder_weights) (by decide +kernel)) (fun _ _ _ _ _ => (pg_name (i := 1) sc_Ladder_weights.nd rfl (.inl rfl))) (fun _ _ _ _ _ => pts_nil) (fun _ _ _ _ _ => (pe_callTy (call_uListK (K := K) rfl) (by rfl) T.b_list bt_list (pa_cons (pv 1) pa_nil)))) (pa_cons (pe_callTy call_uList (by rfl) T.b_list bt_list (pa_cons (pe_fld (pv 0) rfl) pa_nil)) (pa_cons (pe_callTy call_uList (by rfl) T.b_list bt_list (pa_cons (pe_fld (pv 0) rfl) pa_nil)) pa_nil)))))), ?_⟩
  try dsimp only [cxOf, Cx.nox, Cx.wish]
  show (_ : TS) _ [some _, none] _
  o_readsAll
  refine l_it (walk_list (xs := ps.map V.ref)) (fun D i acc H' => ∃ qs : List Addr, acc = qs.map V.ref ∧ qs.length = i ∧ Same H H' ∧ RowsAt H' qs n L fs ∧ ∀ q ∈ qs, H q = none ∧ q ≠ D) (fun D hD => ⟨[], rfl, rfl, Eg.Same.put (Same.refl _) hD, (fun _ _ h => nomatch h), fun _ h => nomatch h⟩) (fun D i acc H' hD _ _ p => ?_) (fun D i x acc H2 H3 hD hi e l p y => ?_) (fun D acc H' hD e l p => ?_)
  · obtain ⟨qs, rfl, hql, e2, hR, hF⟩ := p
    exact .of (e2 _ _ h3)
  · obtain ⟨qs, rfl, hql, e2, hR, hF⟩ := p
    obtain ⟨y1, y2⟩ := y
    subst y1
    rw [List.length_map] at hi
    rw [List.getElem?_map, List.getElem?_eq_getElem hi] at y2
    cases y2
    have hrow := (h5 i _ (List.getElem?_eq_getElem hi)).same e2
    unfold IL at hrow
    refine ⟨rfl, ?_⟩
    o_readsAll
    rename_i r H5 hr5 e5 h5'
    exact g_item (e5 _ _ e) l (by rw [sizeLine_eq]; omega) ⟨qs ++ [r], by rw [List.map_append]; rfl, by rw [List.length_append, hql]; rfl, Eg.Same.put (e2.trans e5) hD, RowsAt.snoc (hR.same e5) (by rw [hql]; exact h5') (e5 _ _ e), fun q hq => by
      rcases List.mem_append.mp hq with z | z
      · exact hF q z
      · rw [List.mem_singleton.mp z]; exact ⟨e2.free hr5, (ne_of_none e hr5).symm⟩⟩
  · obtain ⟨qs, rfl, hql, e2, hR, hF⟩ := p
    have k6 := e2 _ _ h6
    have k7 := e2 _ _ h7
    have k1 := e2 _ _ h1
    rw [List.length_map] at hql
    o_readsAll
    rename_i hp H3 fhp e3 hh3 wp H4 fwp e4 hh4 p H5 fp e5 hh5
    refine k H5 p D hp wp qs ((((e2.trans e3).trans e4).trans e5)) hh5 (e5 _ _ (e4 _ _ (e3 _ _ e))) (by omega) (((hR.same e3).same e4).same e5) ?_ ?_ ⟨hD, e2.free fhp, e2.free (e3.free fwp), fun q hq => ?_, ne_of_none e fhp, ne_of_none (e3 _ _ e) fwp, ne_of_none hh3 fwp⟩
    · exact e5 _ _ (e4 _ _ hh3)
    · exact e5 _ _ hh4
    · obtain ⟨i, hi, rfl⟩ := List.mem_iff_getElem.mp hq
      have hr := hR i _ (List.getElem?_eq_getElem hi)
      exact ⟨(hF _ hq).1, (hF _ hq).2, ne_of_none hr fhp, ne_of_none (e3 _ _ hr) fwp⟩
end
end L30

namespace L30
open SX Ld
section
variable {P : Program} {w : World} {K : PySem.W.Frag} {mg : Str → Option Value} {base : Heap} {Z : Ad}
theorem c_draw {a : Addr} {m : Int} {H : Hp} {Q : VK} {E : XK} (h0 : 0 < m) (h1 : m < 2 ^ 200) (hs : Stk H a) (k : ∀ r H', 0 ≤ r → r < m → Stk H' a → Off a H H' → Q (.int r) H') : sp_draw [.ref a, .int m] H Q E := ⟨a, m, rfl, h0, h1, hs, k⟩
theorem c_stock {a : Addr} {ns : List Int} {at_ : Nat} {H : Hp} {Q : VK} {E : XK} (h : SqL K H a (ns.map V.int)) (hn : ns.length ≤ 63) (ha : at_ < 1000000) (k : ∀ p H', H p = none → Same H H' → Stk H' p → Q (.ref p) H') : sp_stock K [.ref a, .int (at_ : Int)] H Q E := ⟨a, ns, at_, rfl, h, hn, ha, k⟩
theorem Stk.same {H H' : Hp} {a : Addr} (h : Stk H a) (e : Same H H') : Stk H' a := by obtain ⟨x, y, z, h⟩ := h; exact ⟨x, y, z, e _ _ h⟩
theorem Stk.ne {H : Hp} {a b : Addr} (h : Stk H a) (hb : H b = none) : a ≠ b := by obtain ⟨x, y, z, h⟩ := h; exact ne_of_none h hb
theorem Stk.put {H : Hp} {a b : Addr} {o : HO} (h : Stk H a) (n : a ≠ b) : Stk (upd H b o) a := by obtain ⟨x, y, z, h⟩ := h; exact ⟨x, y, z, by rw [upd_ne n]; exact h⟩
theorem Off.putN {H H' : Hp} {a b : Addr} {o : HO} (h : Off a H H') (n : H b = none) : Off a H (upd H' b o) := fun c u hc q => by rw [upd_ne (ne_of_none q n)]; exact h c u hc q
theorem Stk.free {H H' : Hp} {a p : Addr} (s : Stk H' a) (o : Off a H H') (h : H' p = none) : H p = none := by obtain ⟨x, y, z, q⟩ := s; exact off_free o q h
/-- falls so far -/
def FalL (l : List Int) : Prop := ∀ (j : Nat) (f : Int), l[j]? = some f → -1 ≤ f ∧ f ≤ j ∧ (0 < j → f ≤ (j : Int) - 1)
theorem FalL.ok {l : List Int} (h : FalL l) : OkF (fn l) := fun i => by
  unfold fn
  rw [List.getD_eq_getElem?_getD]
  cases hi : l[i]? with
  | none => simp; omega
  | some f => exact h i f hi
theorem FalL.snoc {l : List Int} {f : Int} (h : FalL l) (h1 : -1 ≤ f) (h2 : f ≤ l.length) (h3 : 0 < l.length → f ≤ (l.length : Int) - 1) : FalL (l ++ [f]) := fun j g hg => by
  by_cases hj : j < l.length
  · rw [List.getElem?_append_left hj] at hg
    exact h j g hg
  · have hl := (List.getElem?_eq_some_iff.mp hg).1
    rw [List.length_append, List.length_cons, List.length_nil] at hl
    rw [List.getElem?_append_right (by omega), show j - l.length = 0 by omega] at hg
    cases hg
    rw [show j = l.length by omega]
    exact ⟨h1, h2, h3⟩
def sp_falls : Sp := fun vs H Q _ => ∃ (st : Addr) (n : Nat), vs = [.ref st, .int (n : Int)] ∧ n ≤ 41 ∧ Stk H st ∧ ∀ p (l : List Int) H', H p = none → Stk H' st → Off st H H' → H' p = some (.lst (l.map V.int)) → l.length = n → FalL l → Q (.ref p) H'
theorem d_law_e_falls (T : Txt K w mg Z) : Dfn P w K mg base 2 "_law_e_falls" ["stock", "rungs"] (sp_falls) := by
  obtain ⟨f, fd, F, hm, hb⟩ := T.f_law_e_falls
  refine ⟨f, fd, F.ok sc_law_e_falls (fun vs H Q E h => by first | (obtain ⟨rfl, _⟩ := h; rfl) | (obtain ⟨_, rfl, _⟩ := h; rfl) | (obtain ⟨_, _, rfl, _⟩ := h; rfl) | (obtain ⟨_, _, _, rfl, _⟩ := h; rfl) | (obtain ⟨_, _, _, _, rfl, _⟩ := h; rfl) | (obtain ⟨_, _, _, _, _, rfl, _⟩ := h; rfl) | (obtain ⟨_, _, _, _, _, _, rfl, _⟩ := h; rfl) | (obtain ⟨_, _, _, _, _, _, _, rfl, _⟩ := h; rfl) | (obtain ⟨_, _, _, _, _, _, _, _, rfl, _⟩ := h; rfl) | (obtain ⟨_, _, _, _, _, _, _, _, _, rfl, _⟩ := h; rfl) | (obtain ⟨_, _, _, _, _, _, _, _, _, _, rfl, _⟩ := h; rfl) | (obtain ⟨_, _, _, _, _, _, _, _, _, _, _, rfl, _⟩ := h; rfl) | (obtain ⟨_, _, _, _, _, _, _, _, _, _, _, _, rfl, _⟩ := h; rfl) | (obtain ⟨_, _, _, _, _, _, _, _, _, _, _, _, _, rfl, _⟩ := h; rfl) | (obtain ⟨_, _, _, _, _, _, _, _, _, _, _, _, _, _, rfl, _⟩ := h; rfl) | (obtain ⟨_, _, _, _, _, _, _, _, _, _, _, _, _, _, _, rfl, _⟩ := h; rfl) | (obtain ⟨_, _, _, _, _, _, _, _, _, _, _, _, _, _, _, _, rfl, _⟩ := h; rfl)) (fun cdv A outer s H vs Q E hr h => ?_), hm, F.kp, hb⟩
  obtain ⟨st, n, rfl, n40, hs, k⟩ := h
  have D_law_draw := d_law_draw (P := P) (base := base) T
  refine ⟨_, (pss_cons (ps_set (i := 2) sc_law_e_falls.nd rfl (.inl rfl) (pe_dfn D_law_draw (hr.mono (by decide)) (by rfl) (pa_cons (pv 0) (pa_cons pe_int pa_nil))))
      (pss_cons (ps_set (i := 3) sc_law_e_falls.nd rfl (.inl rfl) (pe_lst pa_nil))
      (pss_cons (ps_for PassesOwn.never rfl (pi_range1 (by rfl) T.b_range (pa_cons (pv 1) pa_nil)) (pg_name (i := 4) sc_law_e_falls.nd rfl (.inl rfl))
        (pss_one (ps_if (pt_cmpR (op_uEq hr.units) (pv 2) pe_int (nomark _)) (pss_one (ps_expr (pe_bm PySem.F.plainAttrs_list PySem.F.slot_list_append PySem.F.type_list_append mt_append (pv 3) (pa_cons pe_int pa_nil)))) (pss_one (ps_if (pt_cmpR (op_uEq hr.units) (pv 2) pe_int (nomark _)) (pss_one (ps_expr (pe_bm PySem.F.plainAttrs_list PySem.F.slot_list_append PySem.F.type_list_append mt_append (pv 3) (pa_cons (pe_callB (call_uMax2 rfl) (by rfl) T.b_max bt_max (pa_cons pe_int (pa_cons (pe_op op_sub (pv 4) pe_int) pa_nil))) pa_nil)))) (pss_one (ps_if (pt_cmpR (op_uEq hr.units) (pv 2) pe_int (nomark _)) (pss_one (ps_expr (pe_bm PySem.F.plainAttrs_list PySem.F.slot_list_append PySem.F.type_list_append mt_append (pv 3) (pa_cons (pe_un un_neg pe_int) pa_nil)))) (pss_one (ps_if (pt_cmpR op_lt (pv 2) pe_int (nomark _)) (pss_one (ps_expr (pe_bm PySem.F.plainAttrs_list PySem.F.slot_list_append PySem.F.type_list_append mt_append (pv 3) (pa_cons (pe_ifExp (pt_cmpR op_gt (pv 4) pe_int (nomark _)) (pe_dfn D_law_draw (hr.mono (by decide)) (by rfl) (pa_cons (pv 0) (pa_cons (pv 4) pa_nil))) pe_int) pa_nil)))) (pss_one (ps_expr (pe_bm PySem.F.plainAttrs_list PySem.F.slot_list_append PySem.F.type_list_append mt_append (pv 3) (pa_cons (pe_ifExp (pt_cmpR op_gt (pv 4) pe_int (nomark _)) (pe_op op_sub (pe_dfn D_law_draw (hr.mono (by decide)) (by rfl) (pa_cons (pv 0) (pa_cons (pe_op op_uAdd (pv 4) pe_int) pa_nil))) pe_int) (pe_op op_sub pe_int (pe_dfn D_law_draw (hr.mono (by decide)) (by rfl) (pa_cons (pv 0) (pa_cons pe_int pa_nil))))) pa_nil)))))))))))))
      (pss_one (ps_ret (pv 3)))))), ?_⟩
  try dsimp only [cxOf, Cx.nox, Cx.wish]
  show (_ : TS) _ [some _, some _, none, none, none] _
  o_readsAll
  refine c_draw (by decide) (by decide) hs fun kd H1 kd0 kd1 s1 o1 => ?_
  o_readsAll
  rename_i fl H2 ffl e2 h2 N hN
  rw [Int.toNat_natCast]
  have ffl0 : H fl = none := s1.free o1 ffl
  have n1 : st ≠ fl := s1.ne ffl
  refine f_rng (fun i σ' H' => ∃ (x : Option V) (l : List Int), σ' = [some (.ref st), some (.int (n : Int)), some (.int kd), some (.ref fl), x] ∧ Stk H' st ∧ Off st H H' ∧ H' fl = some (.lst (l.map V.int)) ∧ l.length = i ∧ FalL l) ⟨_, [], rfl, s1.same e2, o1.same e2, h2, rfl, fun _ _ h => nomatch h⟩ ?_ ?_
  · rintro i σ' H3 hi ⟨x, l, rfl, s3, o3, h3, hl, hF⟩
    rw [Int.zero_add]
    have hsz : (l.map V.int).length < sizeLine := by rw [List.length_map, sizeLine_eq]; omega
    have fin : ∀ (f : Int) (H4 : Hp), Stk H4 st → Off st H H4 → -1 ≤ f → f ≤ i → (0 < i → f ≤ (i : Int) - 1) → ∃ (x' : Option V) (l' : List Int), [some (V.ref st), some (.int (n : Int)), some (.int kd), some (.ref fl), some (.int (i : Int))] = [some (.ref st), some (.int (n : Int)), some (.int kd), some (.ref fl), x'] ∧ Stk (upd H4 fl (.lst (l.map V.int ++ [.int f]))) st ∧ Off st H (upd H4 fl (.lst (l.map V.int ++ [.int f]))) ∧ (upd H4 fl (.lst (l.map V.int ++ [.int f]))) fl = some (.lst (l'.map V.int)) ∧ l'.length = i + 1 ∧ FalL l' := fun f H4 s4 o4 f1 f2 f3 =>
      ⟨_, l ++ [f], rfl, s4.put n1, Off.putN o4 ffl0, by rw [upd_same, List.map_append]; rfl, by rw [List.length_append, hl]; rfl, hF.snoc f1 (by omega) (by omega)⟩
    have hd : ∀ {H4 : Hp}, Off st H3 H4 → H4 fl = some (.lst (l.map V.int)) := fun o => o _ _ n1.symm h3
    o_readsAll
    refine br (fun h => ?_) (fun h => ?_)
    · o_readsAll
      exact fin _ _ s3 o3 (by decide) (by omega) (by omega)
    · o_readsAll
      refine br (fun h => ?_) (fun h => ?_)
      · o_readsAll
        exact fin _ _ s3 o3 (by split <;> omega) (by split <;> omega) (by split <;> omega)
      · o_readsAll
        refine br (fun h => ?_) (fun h => ?_)
        · o_readsAll
          exact fin _ _ s3 o3 (by decide) (by omega) (by omega)
        · o_readsAll
          refine br (fun h => ?_) (fun h => ?_)
          · o_readsAll
            refine br (fun h => ?_) (fun h => ?_)
            · o_readsAll
              refine c_draw (by omega) (by omega) s3 fun r H4 r0 r1 s4 o4 => ?_
              have h4 := hd o4
              o_readsAll
              exact fin _ _ s4 (o3.trans o4) (by omega) (by omega) (by omega)
            · o_readsAll
              exact fin _ _ s3 o3 (by decide) (by omega) (by omega)
          · o_readsAll
            refine br (fun h => ?_) (fun h => ?_)
            · o_readsAll
              refine c_draw (by omega) (by omega) s3 fun r H4 r0 r1 s4 o4 => ?_
              have h4 := hd o4
              o_readsAll
              exact fin _ _ s4 (o3.trans o4) (by omega) (by omega) (by omega)
            · o_readsAll
              refine c_draw (by omega) (by omega) s3 fun r H4 r0 r1 s4 o4 => ?_
              have h4 := hd o4
              o_readsAll
              exact fin _ _ s4 (o3.trans o4) (by omega) (by omega) (by omega)
  · rintro σ' H3 ⟨x, l, rfl, s3, o3, h3, hl, hF⟩
    o_readsAll
    exact k fl l H3 ffl0 s3 o3 h3 hl hF
end
end L30

namespace L30
open SX Ld
section
variable {P : Program} {w : World} {K : PySem.W.Frag} {mg : Str → Option Value} {base : Heap} {Z : Ad}
theorem c_fallsL {st : Addr} {n : Nat} {H : Hp} {Q : VK} {E : XK} (n40 : n ≤ 41) (hs : Stk H st) (k : ∀ p (l : List Int) H', H p = none → Stk H' st → Off st H H' → H' p = some (.lst (l.map V.int)) → l.length = n → FalL l → Q (.ref p) H') : sp_falls [.ref st, .int (n : Int)] H Q E := ⟨st, n, rfl, n40, hs, k⟩
theorem c_falls {st : Addr} {n : Nat} {H : Hp} {Q : VK} {E : XK} (n0 : 0 < n) (n40 : n ≤ 40) (hs : Stk H st) (k : ∀ p fs H', H p = none → Stk H' st → Off st H H' → IL H' p n fs → OkF fs → Q (.ref p) H') : sp_falls [.ref st, .int (n : Int)] H Q E :=
  c_fallsL (by omega) hs fun p l H' hp hs' ho h hl hF => k p (fn l) H' hp hs' ho (by unfold IL; rw [h, rng_fn, hl]) hF.ok
/-- a ladder as the law has it -/
def PlA (H : Hp) (p : Addr) (L : Int) (n : Nat) (fs : Nat → Int) (ret : Bool) : Prop := ∃ fl, H p = some (.lst [.int L, .ref fl, .bl ret]) ∧ IL H fl n fs
theorem PlA.same {H H' : Hp} {p : Addr} {L : Int} {n : Nat} {fs : Nat → Int} {ret : Bool} (h : PlA H p L n fs ret) (e : Same H H') : PlA H' p L n fs ret := by
  obtain ⟨fl, a, b⟩ := h
  exact ⟨fl, e _ _ a, b.same e⟩
def sp_elad : Sp := fun vs H Q _ => ∃ (st : Addr) (lo hi wi : Nat), vs = [.ref st, .int (lo : Int), .int (hi : Int), .int (wi : Int)] ∧ 1 ≤ lo ∧ lo ≤ hi ∧ hi ≤ 40 ∧ 3 ≤ wi ∧ wi ≤ 6 ∧ Stk H st ∧ ∀ p L n fs ret H', H p = none → Stk H' st → Off st H H' → PlA H' p L n fs ret → (∀ fl, H' p = some (.lst [.int L, .ref fl, .bl ret]) → st ≠ fl) → 2 ≤ L → L ≤ wi → lo ≤ n → n ≤ hi → OkF fs → (∃ l : List Int, l.length = n ∧ fs = fn l ∧ FalL l) → Q (.ref p) H'
theorem d_law_e_ladder (T : Txt K w mg Z) : Dfn P w K mg base 3 "_law_e_ladder" ["stock", "least", "most", "widest"] (sp_elad) := by
  obtain ⟨f, fd, F, hm, hb⟩ := T.f_law_e_ladder
  refine ⟨f, fd, F.ok sc_law_e_ladder (fun vs H Q E h => by first | (obtain ⟨rfl, _⟩ := h; rfl) | (obtain ⟨_, rfl, _⟩ := h; rfl) | (obtain ⟨_, _, rfl, _⟩ := h; rfl) | (obtain ⟨_, _, _, rfl, _⟩ := h; rfl) | (obtain ⟨_, _, _, _, rfl, _⟩ := h; rfl) | (obtain ⟨_, _, _, _, _, rfl, _⟩ := h; rfl) | (obtain ⟨_, _, _, _, _, _, rfl, _⟩ := h; rfl) | (obtain ⟨_, _, _, _, _, _, _, rfl, _⟩ := h; rfl) | (obtain ⟨_, _, _, _, _, _, _, _, rfl, _⟩ := h; rfl) | (obtain ⟨_, _, _, _, _, _, _, _, _, rfl, _⟩ := h; rfl) | (obtain ⟨_, _, _, _, _, _, _, _, _, _, rfl, _⟩ := h; rfl) | (obtain ⟨_, _, _, _, _, _, _, _, _, _, _, rfl, _⟩ := h; rfl) | (obtain ⟨_, _, _, _, _, _, _, _, _, _, _, _, rfl, _⟩ := h; rfl) | (obtain ⟨_, _, _, _, _, _, _, _, _, _, _, _, _, rfl, _⟩ := h; rfl) | (obtain ⟨_, _, _, _, _, _, _, _, _, _, _, _, _, _, rfl, _⟩ := h; rfl) | (obtain ⟨_, _, _, _, _, _, _, _, _, _, _, _, _, _, _, rfl, _⟩ := h; rfl) | (obtain ⟨_, _, _, _, _, _, _, _, _, _, _, _, _, _, _, _, rfl, _⟩ := h; rfl)) (fun cdv A outer s H vs Q E hr h => ?_), hm, F.kp, hb⟩
  obtain ⟨st, lo, hi, wi, rfl, lo1, lohi, hi40, wi3, wi6, hs, k⟩ := h
  have D_law_draw := d_law_draw (P := P) (base := base) T
  have D_law_e_falls := d_law_e_falls (P := P) (base := base) T
  refine ⟨_, (pss_cons (ps_set (i := 4) sc_law_e_ladder.nd rfl (.inl rfl) (pe_op op_uAdd (pv 1) (pe_dfn D_law_draw (hr.mono (by decide)) (by rfl) (pa_cons (pv 0) (pa_cons (pe_op op_uAdd (pe_op op_sub (pv 2) (pv 1)) pe_int) pa_nil)))))
      (pss_cons (ps_set (i := 5) sc_law_e_ladder.nd rfl (.inl rfl) (pe_ifExp (pt_cmpR op_gt (pe_dfn D_law_draw (hr.mono (by decide)) (by rfl) (pa_cons (pv 0) (pa_cons pe_int pa_nil))) pe_int (nomark _)) pe_int (pe_op op_uAdd pe_int (pe_dfn D_law_draw (hr.mono (by decide)) (by rfl) (pa_cons (pv 0) (pa_cons (pe_op op_sub (pv 3) pe_int) pa_nil))))))
      (pss_one (ps_ret (pe_lst (pa_cons (pv 5) (pa_cons (pe_dfn D_law_e_falls (hr.mono (by decide)) (by rfl) (pa_cons (pv 0) (pa_cons (pv 4) pa_nil))) (pa_cons (pe_cmpR (op_uEq hr.units) (pe_dfn D_law_draw (hr.mono (by decide)) (by rfl) (pa_cons (pv 0) (pa_cons pe_int pa_nil))) pe_int (nomark _)) pa_nil)))))))), ?_⟩
  try dsimp only [cxOf, Cx.nox, Cx.wish]
  show (_ : TS) _ [some _, some _, some _, some _, none, none] _
  o_readsAll
  refine c_draw (by omega) (by omega) hs fun r1 H1 r10 r11 s1 o1 => ?_
  o_readsAll
  refine c_draw (by decide) (by decide) s1 fun r2 H2 r20 r21 s2 o2 => ?_
  o_readsAll
  have o12 := o1.trans o2
  refine jnE (fun x H' => ∃ L : Int, x = .int L ∧ 2 ≤ L ∧ L ≤ wi ∧ Stk H' st ∧ Off st H H') ?_ (fun Q' hQ => br (fun h => ?_) (fun h => ?_))
  · rintro x H3 ⟨L, rfl, l2, l6, s3, o3⟩
    o_readsAll
    rw [show ((lo : Int) + r1 : Int) = ((lo + r1.toNat : Nat) : Int) by omega]
    refine c_fallsL (by omega) s3 fun fl l H4 ffl s4 o4 h4 hll hF => ?_
    o_readsAll
    refine c_draw (by decide) (by decide) s4 fun r5 H5 r50 r51 s5 o5 => ?_
    have nf : st ≠ fl := s3.ne ffl
    have h5 := o5 _ _ nf.symm h4
    o_readsAll
    rename_i p H6 fp e6 h6
    have o35 := (o3.trans o4).trans o5
    exact k p L (lo + r1.toNat) (fn l) _ H6 (s5.free o35 fp) (s5.same e6) (o35.same e6) ⟨fl, h6, by unfold IL; rw [e6 _ _ h5, rng_fn, hll]⟩ (fun fl' h' => by rw [h6] at h'; cases h'; exact nf) l2 l6 (by omega) (by omega) hF.ok ⟨l, hll, rfl, hF⟩
  · o_readsAll
    exact hQ _ _ ⟨_, rfl, by omega, by omega, s2, o12⟩
  · o_readsAll
    refine c_draw (by omega) (by omega) s2 fun r3 H3 r30 r31 s3 o3 => ?_
    o_readsAll
    exact hQ _ _ ⟨_, rfl, by omega, by omega, s3, o12.trans o3⟩
theorem c_elad {st : Addr} {lo hi wi : Nat} {H : Hp} {Q : VK} {E : XK} (lo1 : 1 ≤ lo) (lh : lo ≤ hi) (h40 : hi ≤ 40) (w3 : 3 ≤ wi) (w6 : wi ≤ 6) (hs : Stk H st) (k : ∀ p L n fs ret H', H p = none → Stk H' st → Off st H H' → PlA H' p L n fs ret → (∀ fl, H' p = some (.lst [.int L, .ref fl, .bl ret]) → st ≠ fl) → 2 ≤ L → L ≤ wi → lo ≤ n → n ≤ hi → OkF fs → Q (.ref p) H') : sp_elad [.ref st, .int (lo : Int), .int (hi : Int), .int (wi : Int)] H Q E := ⟨st, lo, hi, wi, rfl, lo1, lh, h40, w3, w6, hs, fun p L n fs ret H' a b c d e f g h i j _ => k p L n fs ret H' a b c d e f g h i j⟩
theorem c_eladL {st : Addr} {lo hi wi : Nat} {H : Hp} {Q : VK} {E : XK} (lo1 : 1 ≤ lo) (lh : lo ≤ hi) (h40 : hi ≤ 40) (w3 : 3 ≤ wi) (w6 : wi ≤ 6) (hs : Stk H st) (k : ∀ p L (l : List Int) ret H', H p = none → Stk H' st → Off st H H' → PlA H' p L l.length (fn l) ret → (∀ fl, H' p = some (.lst [.int L, .ref fl, .bl ret]) → st ≠ fl) → 2 ≤ L → L ≤ wi → lo ≤ l.length → l.length ≤ hi → FalL l → Q (.ref p) H') : sp_elad [.ref st, .int (lo : Int), .int (hi : Int), .int (wi : Int)] H Q E := ⟨st, lo, hi, wi, rfl, lo1, lh, h40, w3, w6, hs, fun p L n fs ret H' a b c d e f g h i _ z => by
  obtain ⟨l, rfl, rfl, hF⟩ := z
  exact k p L l ret H' a b c d e f g h i hF⟩
def sp_low (K : PySem.W.Frag) : Sp := fun vs H Q _ => ∃ (r : Addr) (f : Int) (m : Nat) (v : Nat → Int), vs = [.ref r, .int f] ∧ IL H r m v ∧ f < m ∧ Q (.int (lowV v f)) H
theorem d_law_e_low (T : Txt K w mg Z) : Dfn P w K mg base 1 "_law_e_low" ["row", "fall"] (sp_low K) := by
  obtain ⟨f, fd, F, hm, hb⟩ := T.f_law_e_low
  refine ⟨f, fd, F.ok sc_law_e_low (fun vs H Q E h => by first | (obtain ⟨rfl, _⟩ := h; rfl) | (obtain ⟨_, rfl, _⟩ := h; rfl) | (obtain ⟨_, _, rfl, _⟩ := h; rfl) | (obtain ⟨_, _, _, rfl, _⟩ := h; rfl) | (obtain ⟨_, _, _, _, rfl, _⟩ := h; rfl) | (obtain ⟨_, _, _, _, _, rfl, _⟩ := h; rfl) | (obtain ⟨_, _, _, _, _, _, rfl, _⟩ := h; rfl) | (obtain ⟨_, _, _, _, _, _, _, rfl, _⟩ := h; rfl) | (obtain ⟨_, _, _, _, _, _, _, _, rfl, _⟩ := h; rfl) | (obtain ⟨_, _, _, _, _, _, _, _, _, rfl, _⟩ := h; rfl) | (obtain ⟨_, _, _, _, _, _, _, _, _, _, rfl, _⟩ := h; rfl) | (obtain ⟨_, _, _, _, _, _, _, _, _, _, _, rfl, _⟩ := h; rfl) | (obtain ⟨_, _, _, _, _, _, _, _, _, _, _, _, rfl, _⟩ := h; rfl) | (obtain ⟨_, _, _, _, _, _, _, _, _, _, _, _, _, rfl, _⟩ := h; rfl) | (obtain ⟨_, _, _, _, _, _, _, _, _, _, _, _, _, _, rfl, _⟩ := h; rfl) | (obtain ⟨_, _, _, _, _, _, _, _, _, _, _, _, _, _, _, rfl, _⟩ := h; rfl) | (obtain ⟨_, _, _, _, _, _, _, _, _, _, _, _, _, _, _, _, rfl, _⟩ := h; rfl)) (fun cdv A outer s H vs Q E hr h => ?_), hm, F.kp, hb⟩
  obtain ⟨r, f, m, v, rfl, hr', hf, k⟩ := h
  refine ⟨_, (pss_one (ps_ret (pe_ifExp (pt_cmpR op_ge (pv 1) pe_int (nomark _)) (pe_ix ix_seq (pv 0) (pv 1) (fun _ _ => rfl)) pe_int))), ?_⟩
  try dsimp only [cxOf, Cx.nox, Cx.wish]
  show (_ : TS) _ [some _, some _] _
  o_readsAll
  refine br (fun h => ?_) (fun h => ?_)
  · o_readsAll
    refine g_ixL hr'.sq (at_ofN (j := f.toNat) (by omega) (rng_at (by omega))) ?_
    unfold lowV at k
    rw [if_neg (by omega)] at k
    exact k
  · o_readsAll
    unfold lowV at k
    rw [if_pos (by omega)] at k
    exact k
theorem c_low {r : Addr} {f : Int} {m : Nat} {v : Nat → Int} {H : Hp} {Q : VK} {E : XK} (hr : IL H r m v) (hf : f < m) (k : Q (.int (lowV v f)) H) : sp_low K [.ref r, .int f] H Q E := ⟨r, f, m, v, rfl, hr, hf, k⟩
def sp_eheads : Sp := fun vs H Q _ => ∃ (p : Addr) (L : Int) (n : Nat) (fs : Nat → Int) (ret : Bool), vs = [.ref p] ∧ PlA H p L n fs ret ∧ 0 ≤ L ∧ L ≤ 6 ∧ n ≤ 40 ∧ OkF fs ∧ ∀ q H', H q = none → Same H H' → IL H' q (n + 1) (hd L fs) → Q (.ref q) H'
theorem d_law_e_heads (T : Txt K w mg Z) : Dfn P w K mg base 2 "_law_e_heads" ["ladder"] (sp_eheads) := by
  obtain ⟨f, fd, F, hm, hb⟩ := T.f_law_e_heads
  refine ⟨f, fd, F.ok sc_law_e_heads (fun vs H Q E h => by first | (obtain ⟨rfl, _⟩ := h; rfl) | (obtain ⟨_, rfl, _⟩ := h; rfl) | (obtain ⟨_, _, rfl, _⟩ := h; rfl) | (obtain ⟨_, _, _, rfl, _⟩ := h; rfl) | (obtain ⟨_, _, _, _, rfl, _⟩ := h; rfl) | (obtain ⟨_, _, _, _, _, rfl, _⟩ := h; rfl) | (obtain ⟨_, _, _, _, _, _, rfl, _⟩ := h; rfl) | (obtain ⟨_, _, _, _, _, _, _, rfl, _⟩ := h; rfl) | (obtain ⟨_, _, _, _, _, _, _, _, rfl, _⟩ := h; rfl) | (obtain ⟨_, _, _, _, _, _, _, _, _, rfl, _⟩ := h; rfl) | (obtain ⟨_, _, _, _, _, _, _, _, _, _, rfl, _⟩ := h; rfl) | (obtain ⟨_, _, _, _, _, _, _, _, _, _, _, rfl, _⟩ := h; rfl) | (obtain ⟨_, _, _, _, _, _, _, _, _, _, _, _, rfl, _⟩ := h; rfl) | (obtain ⟨_, _, _, _, _, _, _, _, _, _, _, _, _, rfl, _⟩ := h; rfl) | (obtain ⟨_, _, _, _, _, _, _, _, _, _, _, _, _, _, rfl, _⟩ := h; rfl) | (obtain ⟨_, _, _, _, _, _, _, _, _, _, _, _, _, _, _, rfl, _⟩ := h; rfl) | (obtain ⟨_, _, _, _, _, _, _, _, _, _, _, _, _, _, _, _, rfl, _⟩ := h; rfl)) (fun cdv A outer s H vs Q E hr h => ?_), hm, F.kp, hb⟩
  obtain ⟨p, L, n, fs, ret, rfl, ⟨fl, h1, h2⟩, l0, l6, n40, ok, k⟩ := h
  have h2' := h2
  unfold IL at h2'
  have D_law_e_low := d_law_e_low (P := P) (base := base) T
  refine ⟨_, (pss_cons (ps_set (i := 1) sc_law_e_heads.nd rfl (.inl rfl) (pe_ix ix_seq (pv 0) pe_int (fun _ _ => rfl)))
      (pss_cons (ps_set (i := 2) sc_law_e_heads.nd rfl (.inl rfl) (pe_ix ix_seq (pv 0) pe_int (fun _ _ => rfl)))
      (pss_cons (ps_set (i := 3) sc_law_e_heads.nd rfl (.inl rfl) (pe_lst (pa_cons pe_int pa_nil)))
      (pss_cons (ps_for PassesOwn.never rfl (pi_range1 (by rfl) T.b_range (pa_cons (pe_callB call_uLen (by rfl) T.b_len bt_len (pa_cons (pv 2) pa_nil)) pa_nil)) (pg_name (i := 4) sc_law_e_heads.nd rfl (.inl rfl))
        (pss_one (ps_expr (pe_bm PySem.F.plainAttrs_list PySem.F.slot_list_append PySem.F.type_list_append mt_append (pv 3) (pa_cons (pe_op op_sub (pe_op op_uMul (pv 1) (pe_ix ix_seq (pv 3) (pv 4) (fun _ _ => rfl))) (pe_op op_uMul (pe_op op_sub (pv 1) pe_int) (pe_dfn D_law_e_low (hr.mono (by decide)) (by rfl) (pa_cons (pv 3) (pa_cons (pe_ix ix_seq (pv 2) (pv 4) (fun _ _ => rfl)) pa_nil))))) pa_nil)))))
      (pss_one (ps_ret (pv 3))))))), ?_⟩
  try dsimp only [cxOf, Cx.nox, Cx.wish]
  show (_ : TS) _ [some _, none, none, none, none] _
  o_readsAll
  rename_i r H1 fr e1 hr1 N hN
  rw [rng_len, Int.toNat_natCast]
  refine f_rng (fun i σ' H' => ∃ x, σ' = [some (.ref p), some (.int L), some (.ref fl), some (.ref r), x] ∧ Same H H' ∧ IL H' r (i + 1) (hd L fs)) ⟨_, rfl, e1, hr1⟩ ?_ ?_
  · rintro i σ' H2 hi ⟨x, rfl, e2, hr2⟩
    rw [Int.zero_add]
    have okf := ok i
    have hr2' : H2 r = some (.lst (rng (i + 1) (hd L fs))) := hr2
    o_readsAll
    refine g_ixL hr2.sq (atI_nat (rng_at (by omega))) ?_
    o_readsAll
    refine g_ixL (h2.same e2).sq (atI_nat (rng_at hi)) ?_
    o_readsAll
    refine c_low hr2 (by omega) ?_
    o_readsAll
    refine ⟨_, rfl, Eg.Same.put e2 fr, ?_⟩
    show upd _ _ _ _ = _
    rw [upd_same, rng_succ (i + 1), hd_succ ok]
  · rintro σ' H2 ⟨x, rfl, e2, hr2⟩
    o_readsAll
    exact k r H2 fr e2 hr2
def sp_eloads : Sp := fun vs H Q _ => ∃ (p : Addr) (L : Int) (n : Nat) (fs : Nat → Int) (ret : Bool), vs = [.ref p] ∧ PlA H p L n fs ret ∧ 0 ≤ L ∧ L ≤ 6 ∧ n ≤ 40 ∧ OkF fs ∧ ∀ q qs H', H q = none → Same H H' → H' q = some (.lst (qs.map V.ref)) → qs.length = n → RowsAt H' qs n L fs → Q (.ref q) H'
theorem d_law_e_loads (T : Txt K w mg Z) : Dfn P w K mg base 2 "_law_e_loads" ["ladder"] (sp_eloads) := by
  obtain ⟨f, fd, F, hm, hb⟩ := T.f_law_e_loads
  refine ⟨f, fd, F.ok sc_law_e_loads (fun vs H Q E h => by first | (obtain ⟨rfl, _⟩ := h; rfl) | (obtain ⟨_, rfl, _⟩ := h; rfl) | (obtain ⟨_, _, rfl, _⟩ := h; rfl) | (obtain ⟨_, _, _, rfl, _⟩ := h; rfl) | (obtain ⟨_, _, _, _, rfl, _⟩ := h; rfl) | (obtain ⟨_, _, _, _, _, rfl, _⟩ := h; rfl) | (obtain ⟨_, _, _, _, _, _, rfl, _⟩ := h; rfl) | (obtain ⟨_, _, _, _, _, _, _, rfl, _⟩ := h; rfl) | (obtain ⟨_, _, _, _, _, _, _, _, rfl, _⟩ := h; rfl) | (obtain ⟨_, _, _, _, _, _, _, _, _, rfl, _⟩ := h; rfl) | (obtain ⟨_, _, _, _, _, _, _, _, _, _, rfl, _⟩ := h; rfl) | (obtain ⟨_, _, _, _, _, _, _, _, _, _, _, rfl, _⟩ := h; rfl) | (obtain ⟨_, _, _, _, _, _, _, _, _, _, _, _, rfl, _⟩ := h; rfl) | (obtain ⟨_, _, _, _, _, _, _, _, _, _, _, _, _, rfl, _⟩ := h; rfl) | (obtain ⟨_, _, _, _, _, _, _, _, _, _, _, _, _, _, rfl, _⟩ := h; rfl) | (obtain ⟨_, _, _, _, _, _, _, _, _, _, _, _, _, _, _, rfl, _⟩ := h; rfl) | (obtain ⟨_, _, _, _, _, _, _, _, _, _, _, _, _, _, _, _, rfl, _⟩ := h; rfl)) (fun cdv A outer s H vs Q E hr h => ?_), hm, F.kp, hb⟩
  obtain ⟨p, L, n, fs, ret, rfl, ⟨fl, h1, h2⟩, l0, l6, n40, ok, k⟩ := h
  have h2' := h2
  unfold IL at h2'
  have D_law_e_low := d_law_e_low (P := P) (base := base) T
  refine ⟨_, (pss_cons (ps_set (i := 1) sc_law_e_loads.nd rfl (.inl rfl) (pe_ix ix_seq (pv 0) pe_int (fun _ _ => rfl)))
      (pss_cons (ps_set (i := 2) sc_law_e_loads.nd rfl (.inl rfl) (pe_ix ix_seq (pv 0) pe_int (fun _ _ => rfl)))
      (pss_cons (ps_set (i := 3) sc_law_e_loads.nd rfl (.inl rfl) (pe_lst pa_nil))
      (pss_cons (ps_for PassesOwn.never rfl (pi_range1 (by rfl) T.b_range (pa_cons (pe_callB call_uLen (by rfl) T.b_len bt_len (pa_cons (pv 2) pa_nil)) pa_nil)) (pg_name (i := 4) sc_law_e_loads.nd rfl (.inl rfl))
        (pss_cons (ps_setLc (i := 5) (own := [("b", 6)]) (by rfl) sc_law_e_loads.nd rfl rfl (sw_true rfl rfl rfl (by decide +kernel)) (pi_range1 (by rfl) T.b_range (pa_cons (pe_op op_uAdd (pv 4) pe_int) pa_nil)) (blkOk_by (N := n_law_e_loads) (sc := defScope st_law_e_loads) (by decide +kernel)) (fun _ _ _ _ _ => (pg_name (i := 6) sc_law_e_loads.nd rfl (.inl rfl))) (fun _ _ _ _ _ => pts_nil) (fun _ _ _ _ _ => pe_int))
      (pss_cons (ps_expr (pe_bm PySem.F.plainAttrs_list PySem.F.slot_list_append PySem.F.type_list_append mt_append (pv 5) (pa_cons pe_int pa_nil)))
      (pss_cons (ps_for PassesOwn.never rfl (pi_range2 (by rfl) T.b_range (pa_cons (pe_op op_uAdd (pv 4) pe_int) (pa_cons (pe_callB call_uLen (by rfl) T.b_len bt_len (pa_cons (pv 2) pa_nil)) pa_nil))) (pg_name (i := 6) sc_law_e_loads.nd rfl (.inl rfl))
        (pss_one (ps_expr (pe_bm PySem.F.plainAttrs_list PySem.F.slot_list_append PySem.F.type_list_append mt_append (pv 5) (pa_cons (pe_op op_sub (pe_op op_uMul (pv 1) (pe_ix ix_seq (pv 5) (pv 6) (fun _ _ => rfl))) (pe_op op_uMul (pe_op op_sub (pv 1) pe_int) (pe_dfn D_law_e_low (hr.mono (by decide)) (by rfl) (pa_cons (pv 5) (pa_cons (pe_ix ix_seq (pv 2) (pv 6) (fun _ _ => rfl)) pa_nil))))) pa_nil)))))
      (pss_one (ps_expr (pe_bm PySem.F.plainAttrs_list PySem.F.slot_list_append PySem.F.type_list_append mt_append (pv 3) (pa_cons (pv 5) pa_nil))))))))
      (pss_one (ps_ret (pv 3))))))), ?_⟩
  try dsimp only [cxOf, Cx.nox, Cx.wish]
  show (_ : TS) _ [some _, none, none, none, none, none, none] _
  o_readsAll
  rename_i rp H1 frp e1 hr1 N hN
  rw [rng_len, Int.toNat_natCast]
  refine f_rng (fun i σ' H' => ∃ (x y z : Option V) (qs : List Addr), σ' = [some (.ref p), some (.int L), some (.ref fl), some (.ref rp), x, y, z] ∧ Same H H' ∧ H' rp = some (.lst (qs.map V.ref)) ∧ qs.length = i ∧ RowsAt H' qs n L fs) ⟨_, _, _, [], rfl, e1, hr1, rfl, fun _ _ h => nomatch h⟩ ?_ ?_
  · rintro i σ' H2 hi ⟨x, y, z, qs, rfl, e2, hq2, hql, hR⟩
    rw [Int.zero_add]
    have hf2 : H2 fl = some (.lst (rng n fs)) := e2 _ _ h2'
    o_readsAll
    rw [show ((i : Int) + 1).toNat = i + 1 by omega]
    refine l_rngP (fun b => .int 0) (fun x => rfl) (fun D' b H4 hb hD' e4 h4 => ?_) fun r H3 fr e3 h3 => ?_
    · o_readsAll
      exact g_itemP e4 h4 hD' (by rw [sizeLine_eq]; omega) rfl
    · have hr3 : H3 r = some (.lst (rng (i + 1) (ld L fs i))) := by
        rw [h3]
        exact congrArg (fun l => some (HO.lst l)) (rng_congr (n := i + 1) (f := fun _ => 0) fun j hj => (ld_zero ok j (by omega)).symm)
      have hf3 := e3 _ _ hf2
      have hq3 := e3 _ _ hq2
      have nfr : fl ≠ r := ne_of_none hf2 fr
      have nqr : rp ≠ r := ne_of_none hq2 fr
      o_readsAll
      rename_i N2 hN2
      rw [rng_len, show ((n : Int) - ((i : Int) + 1)).toNat = n - (i + 1) by omega]
      have fr0 : H r = none := e2.free fr
      refine f_rng (fun j σ' H' => ∃ (z : Option V), σ' = [some (.ref p), some (.int L), some (.ref fl), some (.ref rp), some (.int (i : Int)), some (.ref r), z] ∧ Same H2 H' ∧ H' r = some (.lst (rng (i + 1 + j + 1) (ld L fs i)))) ⟨_, rfl, Eg.Same.put e3 fr, ?_⟩ ?_ ?_
      · rw [upd_same, rng_succ (i + 1), ld_one ok]
      · rintro j σ' H4 hj ⟨z, rfl, e4, h4⟩
        have okf := ok (i + 1 + j)
        have hf4 := e4 _ _ hf2
        have h4' : IL H4 r (i + 1 + j + 1) (ld L fs i) := h4
        rw [show ((i : Int) + 1 + (j : Int)) = ((i + 1 + j : Nat) : Int) by omega]
        o_readsAll
        refine g_ixL (.of h4) (atI_nat (rng_at (by omega))) ?_
        o_readsAll
        refine g_ixL (.of hf4) (atI_nat (rng_at (by omega))) ?_
        o_readsAll
        refine c_low h4' (by omega) ?_
        o_readsAll
        refine ⟨_, rfl, Eg.Same.put e4 fr, ?_⟩
        have hv : ld L fs i (i + 1 + j + 1) = L * ld L fs i (i + 1 + j) - (L - 1) * lowV (ld L fs i) (fs (i + 1 + j)) := by
          have hz : Ld.dl i (i + 1 + j) = 0 := by unfold Ld.dl; rw [if_neg (by omega)]
          rw [ld_succ ok, hz, Int.add_zero]
        rw [upd_same, show i + 1 + (j + 1) + 1 = i + 1 + j + 1 + 1 by omega, rng_succ (i + 1 + j + 1), hv]
      · rintro σ' H4 ⟨z, rfl, e4, h4⟩
        have hq4 := e4 _ _ hq2
        have hR4 := hR.same e4
        rw [show i + 1 + (n - (i + 1)) + 1 = n + 1 by omega] at h4
        o_readsAll
        refine ⟨_, _, _, qs ++ [r], rfl, Eg.Same.put (e2.trans e4) frp, ?_, by rw [List.length_append, hql]; rfl, RowsAt.snoc hR4 (by rw [hql]; exact h4) hq4⟩
        rw [upd_same, List.map_append]; rfl
  · rintro σ' H2 ⟨x, y, z, qs, rfl, e2, hq2, hql, hR⟩
    o_readsAll
    exact k rp qs H2 frp e2 hq2 hql hR
end
end L30

namespace L30
set_option exponentiation.threshold 2000
open SX Ld
section
variable {P : Program} {w : World} {K : PySem.W.Frag} {mg : Str → Option Value} {base : Heap} {Z : Ad}
theorem c_mat {n : Nat} {x y : V} {H : Hp} {Q : VK} {E : XK} (h : Alk H n x y) (k : ∀ H', Same H H' → Q (.bl true) H') : sp_mat n [x, y] H Q E := ⟨x, y, rfl, h, k⟩
/-- tuples, lists of plain values -/
def Flat : V → Prop
  | .int _ => True
  | .str _ => True
  | .bl _ => True
  | _ => False
theorem alk_flat {H : Hp} {m : Nat} {v : V} (h : Flat v) : Alk H (m + 1) v v := by
  cases v <;> first | exact .inr (.inl ⟨_, rfl, rfl⟩) | exact .inr (.inr (.inl ⟨_, rfl, rfl⟩)) | exact .inr (.inr (.inr (.inl ⟨_, rfl, rfl⟩))) | exact h.elim
theorem alk_tup {H : Hp} {m : Nat} {a b : Addr} {xs : List V} (ha : H a = some (.tup xs)) (hb : H b = some (.tup xs)) (hl : xs.length ≤ 1000000) (hf : ∀ v ∈ xs, Flat v) : Alk H (m + 2) (.ref a) (.ref b) := by
  refine .inr (.inr (.inr (.inr (.inl ⟨a, b, _, _, rfl, rfl, ha, hb, rfl, hl, fun i u v hu hv => ?_⟩))))
  rw [hu] at hv
  cases hv
  exact alk_flat (hf u (List.mem_of_getElem? hu))
theorem sh_held : SeqAt.shaped (.tuple [.str "held"]) = true := by decide +kernel
theorem eq_held : PyData.eqv (.tuple [.str "held"]) (.tuple [.str "held"]) = true := by decide +kernel
theorem g_neHeld {a b : Addr} {H : Hp} {Q : VK} (ha : H a = some (.tup [.str "held"])) (hb : H b = some (.tup [.str "held"])) (k : Q (.bl false) H) : uNe K (.ref a) (.ref b) H Q := by
  refine .inr ⟨.tuple [.str "held"], .tuple [.str "held"], .tup (.of ha) (.cons (.str _) .nil), .tup (.of hb) (.cons (.str _) .nil), sh_held, sh_held, ?_⟩
  rw [eq_held]
  exact k
theorem g_eqHeld {a b : Addr} {H : Hp} {Q : VK} (ha : H a = some (.tup [.str "held"])) (hb : H b = some (.tup [.str "held"])) (k : Q (.bl true) H) : uEq K (.ref a) (.ref b) H Q := by
  refine .inr ⟨.tuple [.str "held"], .tuple [.str "held"], .tup (.of ha) (.cons (.str _) .nil), .tup (.of hb) (.cons (.str _) .nil), sh_held, sh_held, ?_⟩
  rw [eq_held]
  exact k
theorem alk_il {H : Hp} {m n : Nat} {p q : Addr} {f : Nat → Int} (hp : IL H p n f) (hq : IL H q n f) (h : n ≤ 1000000) : Alk H (m + 2) (.ref p) (.ref q) := by
  refine .inr (.inr (.inr (.inr (.inr ⟨p, q, _, _, rfl, rfl, hp, hq, rfl, by rw [rng_len]; exact h, fun i u v hu hv => ?_⟩))))
  rw [hu] at hv
  cases hv
  have hi := (List.getElem?_eq_some_iff.mp hu).1
  rw [rng_len] at hi
  rw [rng_at hi] at hu
  cases hu
  exact alk_flat trivial
end
end L30

namespace L30
set_option exponentiation.threshold 2000
open SX Ld
section
variable {P : Program} {w : World} {K : PySem.W.Frag} {mg : Str → Option Value} {base : Heap} {Z : Ad}
theorem d_BadLadder_init (T : Txt K w mg Z) : Iex P w K mg base 1 "BadLadder" Z.a_BadLadder ["self", "rung"] (sp_xi K Z.a_BadLadder "rung") := by
  obtain ⟨f, fd, F, hi, ht, hb⟩ := T.f_BadLadder_init
  refine ⟨⟨f, fd, F.ok sc_BadLadder_init (fun vs H Q E h => by first | (obtain ⟨rfl, _⟩ := h; rfl) | (obtain ⟨_, rfl, _⟩ := h; rfl) | (obtain ⟨_, _, rfl, _⟩ := h; rfl) | (obtain ⟨_, _, _, rfl, _⟩ := h; rfl) | (obtain ⟨_, _, _, _, rfl, _⟩ := h; rfl) | (obtain ⟨_, _, _, _, _, rfl, _⟩ := h; rfl) | (obtain ⟨_, _, _, _, _, _, rfl, _⟩ := h; rfl) | (obtain ⟨_, _, _, _, _, _, _, rfl, _⟩ := h; rfl) | (obtain ⟨_, _, _, _, _, _, _, _, rfl, _⟩ := h; rfl) | (obtain ⟨_, _, _, _, _, _, _, _, _, rfl, _⟩ := h; rfl) | (obtain ⟨_, _, _, _, _, _, _, _, _, _, rfl, _⟩ := h; rfl) | (obtain ⟨_, _, _, _, _, _, _, _, _, _, _, rfl, _⟩ := h; rfl) | (obtain ⟨_, _, _, _, _, _, _, _, _, _, _, _, rfl, _⟩ := h; rfl) | (obtain ⟨_, _, _, _, _, _, _, _, _, _, _, _, _, rfl, _⟩ := h; rfl) | (obtain ⟨_, _, _, _, _, _, _, _, _, _, _, _, _, _, rfl, _⟩ := h; rfl) | (obtain ⟨_, _, _, _, _, _, _, _, _, _, _, _, _, _, _, rfl, _⟩ := h; rfl) | (obtain ⟨_, _, _, _, _, _, _, _, _, _, _, _, _, _, _, _, rfl, _⟩ := h; rfl)) (fun cdv A outer s H vs Q E hr h => ?_), hi, ht, T.g_BadLadder, hb⟩, T.o_BadLadder⟩
  have oex := T.o_BadLadder
  have nex := T.n_BadLadder_rung
  obtain ⟨a, v, rfl, ha, k⟩ := h
  refine ⟨_, (pss_cons (ps_expr (pe_winit (by rfl) T.g_WinsError T.wg_WinsError T.wr_WinsError T.wv_WinsError (pa_cons (pv 0) (pa_cons pe_str pa_nil))))
      (pss_one (ps_ost (pv 0) (pv 1) rfl))), ?_⟩
  try dsimp only [cxOf, Cx.nox, Cx.wish]
  show (_ : TS) _ [some _, some _] _
  o_readsAll
  refine g_ve ha oex (by simp) ?_
  o_readsAll
  refine g_ost ha oex nex fun dx hd hn => ?_
  o_readsAll
  exact k dx hd hn
theorem d_BadTable_init (T : Txt K w mg Z) : Iex P w K mg base 1 "BadTable" Z.a_BadTable ["self", "rung"] (sp_xi K Z.a_BadTable "rung") := by
  obtain ⟨f, fd, F, hi, ht, hb⟩ := T.f_BadTable_init
  refine ⟨⟨f, fd, F.ok sc_BadTable_init (fun vs H Q E h => by first | (obtain ⟨rfl, _⟩ := h; rfl) | (obtain ⟨_, rfl, _⟩ := h; rfl) | (obtain ⟨_, _, rfl, _⟩ := h; rfl) | (obtain ⟨_, _, _, rfl, _⟩ := h; rfl) | (obtain ⟨_, _, _, _, rfl, _⟩ := h; rfl) | (obtain ⟨_, _, _, _, _, rfl, _⟩ := h; rfl) | (obtain ⟨_, _, _, _, _, _, rfl, _⟩ := h; rfl) | (obtain ⟨_, _, _, _, _, _, _, rfl, _⟩ := h; rfl) | (obtain ⟨_, _, _, _, _, _, _, _, rfl, _⟩ := h; rfl) | (obtain ⟨_, _, _, _, _, _, _, _, _, rfl, _⟩ := h; rfl) | (obtain ⟨_, _, _, _, _, _, _, _, _, _, rfl, _⟩ := h; rfl) | (obtain ⟨_, _, _, _, _, _, _, _, _, _, _, rfl, _⟩ := h; rfl) | (obtain ⟨_, _, _, _, _, _, _, _, _, _, _, _, rfl, _⟩ := h; rfl) | (obtain ⟨_, _, _, _, _, _, _, _, _, _, _, _, _, rfl, _⟩ := h; rfl) | (obtain ⟨_, _, _, _, _, _, _, _, _, _, _, _, _, _, rfl, _⟩ := h; rfl) | (obtain ⟨_, _, _, _, _, _, _, _, _, _, _, _, _, _, _, rfl, _⟩ := h; rfl) | (obtain ⟨_, _, _, _, _, _, _, _, _, _, _, _, _, _, _, _, rfl, _⟩ := h; rfl)) (fun cdv A outer s H vs Q E hr h => ?_), hi, ht, T.g_BadTable, hb⟩, T.o_BadTable⟩
  have oex := T.o_BadTable
  have nex := T.n_BadTable_rung
  obtain ⟨a, v, rfl, ha, k⟩ := h
  refine ⟨_, (pss_cons (ps_expr (pe_winit (by rfl) T.g_WinsError T.wg_WinsError T.wr_WinsError T.wv_WinsError (pa_cons (pv 0) (pa_cons pe_str pa_nil))))
      (pss_one (ps_ost (pv 0) (pv 1) rfl))), ?_⟩
  try dsimp only [cxOf, Cx.nox, Cx.wish]
  show (_ : TS) _ [some _, some _] _
  o_readsAll
  refine g_ve ha oex (by simp) ?_
  o_readsAll
  refine g_ost ha oex nex fun dx hd hn => ?_
  o_readsAll
  exact k dx hd hn
/-- the errors that are met: name, class, field -/
def ErrC (Z : Ad) (nm : Str) (C : Addr) (f : Str) : Prop := (nm = "BadLadder" ∧ C = Z.a_BadLadder ∧ f = "rung") ∨ (nm = "BadTable" ∧ C = Z.a_BadTable ∧ f = "rung")
theorem err_BadLadder : ErrC Z "BadLadder" Z.a_BadLadder "rung" := .inl ⟨rfl, rfl, rfl⟩
theorem err_BadTable : ErrC Z "BadTable" Z.a_BadTable "rung" := .inr (⟨rfl, rfl, rfl⟩)
def sp_named (Z : Ad) : Value → Option Addr → Sp := fun cls d vs H Q _ => ∃ (a dd C : Addr) (nm f : Str) (v : V), vs = [.ref a] ∧ cls = .ref C ∧ d = some dd ∧ ErrC Z nm C f ∧ H dd = some (.xd [(f, v)]) ∧ ∀ p H', H p = none → Same H H' → H' p = some (.tup [.str nm, v]) → Q (.ref p) H'
theorem d_law_e_named (T : Txt K w mg Z) : DfnE P w K mg base 1 "_law_e_named" ["raised"] (sp_named Z) := by
  obtain ⟨f, fd, F, hm, hb⟩ := T.f_law_e_named
  refine ⟨f, fd, okE F sc_law_e_named rfl (fun cdv A outer s H Q a oe cls d hr hz hf h => ?_), hm, F.kp, hb⟩
  obtain ⟨a', dd, C, nm, f, v, e1, rfl, rfl, ec, hx, k⟩ := h
  cases e1
  rcases ec with ⟨rfl, rfl, rfl⟩ | ⟨rfl, rfl, rfl⟩
  · skip
    have xi := T.xi_BadLadder
    have xf := T.x_BadLadder
    refine ⟨_, (pss_cons (ps_set (i := 1) sc_law_e_named.nd rfl (.inl rfl) (pe_lst pa_nil))
      (pss_cons (ps_if (pt_uK (K := K) rfl (pe_callB (call_isX hz hf) (by rfl) T.b_isinstance bt_isinstance (pa_cons (pv 0) (pa_cons (pe_gr T.g_TooMany) pa_nil)))) (pss_one ps_never) pss_nil)
      (pss_cons (ps_if (pt_uK (K := K) rfl (pe_callB (call_isX hz hf) (by rfl) T.b_isinstance bt_isinstance (pa_cons (pv 0) (pa_cons (pe_gr T.g_BadLadder) pa_nil)))) (pss_one (ps_expr (pe_bmX (K := K) rfl PySem.F.plainAttrs_list PySem.F.slot_list_append PySem.F.type_list_append mt_append (pv 1) (pa_cons (pe_tup (pa_cons pe_str (pa_cons (pe_xfA hz hf (pv 0)) pa_nil))) pa_nil)))) pss_nil)
      (pss_cons (ps_if (pt_uK (K := K) rfl (pe_callB (call_isX hz hf) (by rfl) T.b_isinstance bt_isinstance (pa_cons (pv 0) (pa_cons (pe_gr T.g_BadTable) pa_nil)))) (pss_one (ps_expr (pe_bmX (K := K) rfl PySem.F.plainAttrs_list PySem.F.slot_list_append PySem.F.type_list_append mt_append (pv 1) (pa_cons (pe_tup (pa_cons pe_str (pa_cons (pe_xfA hz hf (pv 0)) pa_nil))) pa_nil)))) pss_nil)
      (pss_cons (ps_if (pt_uK (K := K) rfl (pe_callB (call_isX hz hf) (by rfl) T.b_isinstance bt_isinstance (pa_cons (pv 0) (pa_cons (pe_gr T.g_BadDemand) pa_nil)))) (pss_one ps_never) pss_nil)
      (pss_cons (ps_if (pt_uK (K := K) rfl (pe_callB (call_isX hz hf) (by rfl) T.b_isinstance bt_isinstance (pa_cons (pv 0) (pa_cons (pe_tup (pa_cons (pe_gr T.g_BadText) (pa_cons (pe_gr T.g_BadSeason) (pa_cons (pe_gr T.g_BadCode) (pa_cons (pe_gr T.g_BadEvent) (pa_cons (pe_gr T.g_BadFoe) (pa_cons (pe_gr T.g_BadPaper) (pa_cons (pe_gr T.g_BadDisk) (pa_cons (pe_gr T.g_BadDeed) pa_nil))))))))) pa_nil)))) (pss_one ps_never) pss_nil)
      (pss_one (ps_ret (pe_ifExp (PW.pt (pw_and (pt_cmpR (op_uEqK (K := K) rfl hr.units) (pe_callB (call_uLenK (K := K) rfl) (by rfl) T.b_len bt_len (pa_cons (pv 1) pa_nil)) pe_int (nomark _)) (pw_and1 (pt_uK (K := K) rfl (pe_callB (call_isX hz hf) (by rfl) T.b_isinstance bt_isinstance (pa_cons (pv 0) (pa_cons (pe_bltn (v := .ty "ValueError") (by rfl) T.b_ValueError bt_ValueError rfl) pa_nil))))))) (pe_ix (ix_seqK (K := K) rfl) (pv 1) pe_int (fun _ _ => rfl)) (pe_tup (pa_cons pe_str pa_nil))))))))))), ?_⟩
    try dsimp only [cxOf, Cx.nox, Cx.wish]
    show (_ : TS) _ [some _, none] _
    o_readsAll
    rename_i q0 H1 fq0 e1 hq0 N1 hN1
    have hx1 := e1 _ _ hx
    refine g_isx xi hx1 (.own _) T.ki_BadLadder_TooMany ?_
    o_readsAll
    refine g_isx xi hx1 (.own _) T.ki_BadLadder_BadLadder ?_
    o_readsAll
    refine g_xfA xf T.n_BadLadder_rung hx1 fld_hd ?_
    o_readsAll
    rename_i t1 H2 ft1 e2 ht1 N2 hN2
    have hq2 := e2 _ _ hq0
    have nt1 : t1 ≠ q0 := (ne_of_none hq0 ft1).symm
    have hdq : dd ≠ q0 := ne_of hx1 hq0 (by intro z; cases z)
    have hx2 : upd H2 q0 (.lst ([] ++ [V.ref t1])) dd = some (.xd [("rung", v)]) := by rw [upd_ne hdq]; exact e2 _ _ hx1
    refine g_isx xi hx2 (.own _) T.ki_BadLadder_BadTable ?_
    o_readsAll
    refine g_isx xi hx2 (.own _) T.ki_BadLadder_BadDemand ?_
    o_readsAll
    rename_i t2 H3 ft2 e3 ht2
    have hx3 : H3 dd = some (.xd [("rung", v)]) := e3 _ _ (by rw [upd_ne hdq]; exact e2 _ _ hx1)
    have ht3 : H3 t1 = some (.tup [.str "BadLadder", v]) := e3 _ _ (by rw [upd_ne nt1]; exact ht1)
    have f3 : H3 q0 = some (.lst [.ref t1]) := e3 _ _ upd_same
    have s3 : Same H H3 := (Eg.Same.put (e1.trans e2) fq0).trans e3
    have nf1 : H t1 = none := e1.free ft1
    refine g_isxT xi hx3 ht2 (.cons (.own _) (.cons (.own _) (.cons (.own _) (.cons (.own _) (.cons (.own _) (.cons (.own _) (.cons (.own _) (.cons (.own _) .nil)))))))) T.ka_BadLadder_0 ?_
    clear hq0 e1 e2 hq2 ht1
    o_readsAll
    refine brT (decide_eq_true rfl) ?_
    o_readsAll
    refine g_isx xi hx3 (.ty _) T.ki_BadLadder_ValueError ?_
    o_readsAll
    exact k _ _ nf1 s3 ht3
  · skip
    have xi := T.xi_BadTable
    have xf := T.x_BadTable
    refine ⟨_, (pss_cons (ps_set (i := 1) sc_law_e_named.nd rfl (.inl rfl) (pe_lst pa_nil))
      (pss_cons (ps_if (pt_uK (K := K) rfl (pe_callB (call_isX hz hf) (by rfl) T.b_isinstance bt_isinstance (pa_cons (pv 0) (pa_cons (pe_gr T.g_TooMany) pa_nil)))) (pss_one ps_never) pss_nil)
      (pss_cons (ps_if (pt_uK (K := K) rfl (pe_callB (call_isX hz hf) (by rfl) T.b_isinstance bt_isinstance (pa_cons (pv 0) (pa_cons (pe_gr T.g_BadLadder) pa_nil)))) (pss_one (ps_expr (pe_bmX (K := K) rfl PySem.F.plainAttrs_list PySem.F.slot_list_append PySem.F.type_list_append mt_append (pv 1) (pa_cons (pe_tup (pa_cons pe_str (pa_cons (pe_xfA hz hf (pv 0)) pa_nil))) pa_nil)))) pss_nil)
      (pss_cons (ps_if (pt_uK (K := K) rfl (pe_callB (call_isX hz hf) (by rfl) T.b_isinstance bt_isinstance (pa_cons (pv 0) (pa_cons (pe_gr T.g_BadTable) pa_nil)))) (pss_one (ps_expr (pe_bmX (K := K) rfl PySem.F.plainAttrs_list PySem.F.slot_list_append PySem.F.type_list_append mt_append (pv 1) (pa_cons (pe_tup (pa_cons pe_str (pa_cons (pe_xfA hz hf (pv 0)) pa_nil))) pa_nil)))) pss_nil)
      (pss_cons (ps_if (pt_uK (K := K) rfl (pe_callB (call_isX hz hf) (by rfl) T.b_isinstance bt_isinstance (pa_cons (pv 0) (pa_cons (pe_gr T.g_BadDemand) pa_nil)))) (pss_one ps_never) pss_nil)
      (pss_cons (ps_if (pt_uK (K := K) rfl (pe_callB (call_isX hz hf) (by rfl) T.b_isinstance bt_isinstance (pa_cons (pv 0) (pa_cons (pe_tup (pa_cons (pe_gr T.g_BadText) (pa_cons (pe_gr T.g_BadSeason) (pa_cons (pe_gr T.g_BadCode) (pa_cons (pe_gr T.g_BadEvent) (pa_cons (pe_gr T.g_BadFoe) (pa_cons (pe_gr T.g_BadPaper) (pa_cons (pe_gr T.g_BadDisk) (pa_cons (pe_gr T.g_BadDeed) pa_nil))))))))) pa_nil)))) (pss_one ps_never) pss_nil)
      (pss_one (ps_ret (pe_ifExp (PW.pt (pw_and (pt_cmpR (op_uEqK (K := K) rfl hr.units) (pe_callB (call_uLenK (K := K) rfl) (by rfl) T.b_len bt_len (pa_cons (pv 1) pa_nil)) pe_int (nomark _)) (pw_and1 (pt_uK (K := K) rfl (pe_callB (call_isX hz hf) (by rfl) T.b_isinstance bt_isinstance (pa_cons (pv 0) (pa_cons (pe_bltn (v := .ty "ValueError") (by rfl) T.b_ValueError bt_ValueError rfl) pa_nil))))))) (pe_ix (ix_seqK (K := K) rfl) (pv 1) pe_int (fun _ _ => rfl)) (pe_tup (pa_cons pe_str pa_nil))))))))))), ?_⟩
    try dsimp only [cxOf, Cx.nox, Cx.wish]
    show (_ : TS) _ [some _, none] _
    o_readsAll
    rename_i q0 H1 fq0 e1 hq0 N1 hN1
    have hx1 := e1 _ _ hx
    refine g_isx xi hx1 (.own _) T.ki_BadTable_TooMany ?_
    o_readsAll
    refine g_isx xi hx1 (.own _) T.ki_BadTable_BadLadder ?_
    o_readsAll
    refine g_isx xi hx1 (.own _) T.ki_BadTable_BadTable ?_
    o_readsAll
    refine g_xfA xf T.n_BadTable_rung hx1 fld_hd ?_
    o_readsAll
    rename_i t1 H2 ft1 e2 ht1 N2 hN2
    have hq2 := e2 _ _ hq0
    have nt1 : t1 ≠ q0 := (ne_of_none hq0 ft1).symm
    have hdq : dd ≠ q0 := ne_of hx1 hq0 (by intro z; cases z)
    have hx2 : upd H2 q0 (.lst ([] ++ [V.ref t1])) dd = some (.xd [("rung", v)]) := by rw [upd_ne hdq]; exact e2 _ _ hx1
    refine g_isx xi hx2 (.own _) T.ki_BadTable_BadDemand ?_
    o_readsAll
    rename_i t2 H3 ft2 e3 ht2
    have hx3 : H3 dd = some (.xd [("rung", v)]) := e3 _ _ (by rw [upd_ne hdq]; exact e2 _ _ hx1)
    have ht3 : H3 t1 = some (.tup [.str "BadTable", v]) := e3 _ _ (by rw [upd_ne nt1]; exact ht1)
    have f3 : H3 q0 = some (.lst [.ref t1]) := e3 _ _ upd_same
    have s3 : Same H H3 := (Eg.Same.put (e1.trans e2) fq0).trans e3
    have nf1 : H t1 = none := e1.free ft1
    refine g_isxT xi hx3 ht2 (.cons (.own _) (.cons (.own _) (.cons (.own _) (.cons (.own _) (.cons (.own _) (.cons (.own _) (.cons (.own _) (.cons (.own _) .nil)))))))) T.ka_BadTable_0 ?_
    clear hq0 e1 e2 hq2 ht1
    o_readsAll
    refine brT (decide_eq_true rfl) ?_
    o_readsAll
    refine g_isx xi hx3 (.ty _) T.ki_BadTable_ValueError ?_
    o_readsAll
    exact k _ _ nf1 s3 ht3
/-- the answer of a call, or its refusal -/
def sp_asked (Z : Ad) : (XK → Hp → VK → Prop) → Sp := fun tl vs H Q _ => vs = [] ∧ ∃ (Re : Str → V → Hp → Prop) (Ro : V → Hp → Prop), (∀ E1 Q1, (∀ nm C f d v H1, ErrC Z nm C f → H1 d = some (.xd [(f, v)]) → Re nm v H1 → E1 (.ref C) (some d) H1) → (∀ v H1, Ro v H1 → Q1 v H1) → tl E1 H Q1) ∧
  (∀ nm v H1, Re nm v H1 → ∀ p H2, H1 p = none → Same H1 H2 → H2 p = some (.tup [.str nm, v]) → Q (.ref p) H2) ∧ (∀ v H1, Ro v H1 → ∀ p H2, H1 p = none → Same H1 H2 → H2 p = some (.tup [.str "told", v]) → Q (.ref p) H2)
theorem c_named {cls : Value} {a dd C : Addr} {nm f : Str} {v : V} {H : Hp} {Q : VK} {E : XK} (e : cls = .ref C) (ec : ErrC Z nm C f) (h : H dd = some (.xd [(f, v)])) (k : ∀ p H', H p = none → Same H H' → H' p = some (.tup [.str nm, v]) → Q (.ref p) H') : sp_named Z cls (some dd) [.ref a] H Q E := ⟨a, dd, C, nm, f, v, rfl, e, rfl, ec, h, k⟩
theorem exm_wins (T : Txt K w mg Z) {nm f : Str} {C : Addr} (e : ErrC Z nm C f) : PySem.W.exmOne K (.ref C) (.ref Z.a_WinsError) = some true := by
  rcases e with ⟨-, rfl, -⟩ | ⟨-, rfl, -⟩
  · exact T.mm_BadLadder_WinsError
  · exact T.mm_BadTable_WinsError
theorem d_law_e_asked (T : Txt K w mg Z) : DfnL P w K mg base 10 9 "_law_e_asked" ["call"] (sp_asked Z) := by
  obtain ⟨f, fd, F, hm, hb⟩ := T.f_law_e_asked
  refine ⟨f, fd, okL F sc_law_e_asked (fun tl vs H Q E h => by first | (obtain ⟨rfl, _⟩ := h; rfl) | (obtain ⟨_, rfl, _⟩ := h; rfl) | (obtain ⟨_, _, rfl, _⟩ := h; rfl) | (obtain ⟨_, _, _, rfl, _⟩ := h; rfl) | (obtain ⟨_, _, _, _, rfl, _⟩ := h; rfl) | (obtain ⟨_, _, _, _, _, rfl, _⟩ := h; rfl) | (obtain ⟨_, _, _, _, _, _, rfl, _⟩ := h; rfl) | (obtain ⟨_, _, _, _, _, _, _, rfl, _⟩ := h; rfl) | (obtain ⟨_, _, _, _, _, _, _, _, rfl, _⟩ := h; rfl) | (obtain ⟨_, _, _, _, _, _, _, _, _, rfl, _⟩ := h; rfl) | (obtain ⟨_, _, _, _, _, _, _, _, _, _, rfl, _⟩ := h; rfl) | (obtain ⟨_, _, _, _, _, _, _, _, _, _, _, rfl, _⟩ := h; rfl) | (obtain ⟨_, _, _, _, _, _, _, _, _, _, _, _, rfl, _⟩ := h; rfl) | (obtain ⟨_, _, _, _, _, _, _, _, _, _, _, _, _, rfl, _⟩ := h; rfl) | (obtain ⟨_, _, _, _, _, _, _, _, _, _, _, _, _, _, rfl, _⟩ := h; rfl) | (obtain ⟨_, _, _, _, _, _, _, _, _, _, _, _, _, _, _, rfl, _⟩ := h; rfl) | (obtain ⟨_, _, _, _, _, _, _, _, _, _, _, _, _, _, _, _, rfl, _⟩ := h; rfl)) (fun cdv A outer s H vs Q f tl hr hL h => ?_), hm, F.kp, hb⟩
  obtain ⟨rfl, Re, Ro, k1, k2, k3⟩ := h
  have Q_law_e_named := d_law_e_named (P := P) (base := base) T
  refine ⟨_, (pss_cons (ps_try_as (i := 2) (Wout := fun _ _ _ _ => False) rfl rfl sc_law_e_asked.nd rfl rfl ⟨rfl, by decide, Or.inl T.g_WinsError⟩ takes0 (fun W pn xe tk _ => (pss_one (ps_set (i := 1) sc_law_e_asked.nd rfl (.inl rfl) (pe_lamc (i := 0) hL rfl (hr.mono (by decide)) tk)))) (fun a oe cls d pn hz hf => (pss_one (ps_ret (pe_dfnE (i := 2) Q_law_e_named (L2H.roomH_mark (hr.mono (by decide)) _) hz hf (by rfl))))))
      (pss_one (ps_ret (pe_tup (pa_cons pe_str (pa_cons (pv 1) pa_nil)))))), ?_⟩
  try dsimp only [cxOf, Cx.nox, Cx.wish]
  show (_ : TS) _ [some _, none, none] _
  o_readsAll
  refine k1 _ _ (fun nm C f' d v H1 ec hd re => ?_) (fun v H1 ro => ?_)
  · refine g_wAs (exm_wins T ec) fun a ha => ?_
    o_readsAll
    refine c_named rfl ec hd fun p H2 fp e2 hp => ?_
    exact k2 nm v H1 re p H2 fp e2 hp
  · o_readsAll
    exact k3 v H1 ro _ _ (by assumption) (by assumption) (by assumption)
/-- a call that is refused by just this error -/
def sp_refused (Z : Ad) : (XK → Hp → VK → Prop) → Sp := fun tl vs H Q _ => ∃ (due C : Addr) (nm f : Str) (v : V), vs = [.ref due] ∧ ErrC Z nm C f ∧ Flat v ∧ H due = some (.tup [.str nm, v]) ∧ (∀ E1 Q1, (∀ d H1, Same H H1 → H1 d = some (.xd [(f, v)]) → E1 (.ref C) (some d) H1) → tl E1 H Q1) ∧ ∀ H', Same H H' → Q (.bl true) H'
theorem c_asked {tl : XK → Hp → VK → Prop} {H : Hp} {Q : VK} {E : XK} (Re : Str → V → Hp → Prop) (Ro : V → Hp → Prop) (k1 : ∀ E1 Q1, (∀ nm C f d v H1, ErrC Z nm C f → H1 d = some (.xd [(f, v)]) → Re nm v H1 → E1 (.ref C) (some d) H1) → (∀ v H1, Ro v H1 → Q1 v H1) → tl E1 H Q1)
    (k2 : ∀ nm v H1, Re nm v H1 → ∀ p H2, H1 p = none → Same H1 H2 → H2 p = some (.tup [.str nm, v]) → Q (.ref p) H2) (k3 : ∀ v H1, Ro v H1 → ∀ p H2, H1 p = none → Same H1 H2 → H2 p = some (.tup [.str "told", v]) → Q (.ref p) H2) : sp_asked Z tl [] H Q E := ⟨rfl, Re, Ro, k1, k2, k3⟩
theorem nm_told {nm f : Str} {C : Addr} (e : ErrC Z nm C f) : nm ≠ ("told" : Str) := by
  rcases e with ⟨rfl, -, -⟩ | ⟨rfl, -, -⟩ <;> decide +kernel
theorem d_law_e_refused (T : Txt K w mg Z) : DfnL P w K mg base 11 9 "_law_e_refused" ["call", "due"] (sp_refused Z) := by
  obtain ⟨f, fd, F, hm, hb⟩ := T.f_law_e_refused
  refine ⟨f, fd, okL F sc_law_e_refused (fun tl vs H Q E h => by first | (obtain ⟨rfl, _⟩ := h; rfl) | (obtain ⟨_, rfl, _⟩ := h; rfl) | (obtain ⟨_, _, rfl, _⟩ := h; rfl) | (obtain ⟨_, _, _, rfl, _⟩ := h; rfl) | (obtain ⟨_, _, _, _, rfl, _⟩ := h; rfl) | (obtain ⟨_, _, _, _, _, rfl, _⟩ := h; rfl) | (obtain ⟨_, _, _, _, _, _, rfl, _⟩ := h; rfl) | (obtain ⟨_, _, _, _, _, _, _, rfl, _⟩ := h; rfl) | (obtain ⟨_, _, _, _, _, _, _, _, rfl, _⟩ := h; rfl) | (obtain ⟨_, _, _, _, _, _, _, _, _, rfl, _⟩ := h; rfl) | (obtain ⟨_, _, _, _, _, _, _, _, _, _, rfl, _⟩ := h; rfl) | (obtain ⟨_, _, _, _, _, _, _, _, _, _, _, rfl, _⟩ := h; rfl) | (obtain ⟨_, _, _, _, _, _, _, _, _, _, _, _, rfl, _⟩ := h; rfl) | (obtain ⟨_, _, _, _, _, _, _, _, _, _, _, _, _, rfl, _⟩ := h; rfl) | (obtain ⟨_, _, _, _, _, _, _, _, _, _, _, _, _, _, rfl, _⟩ := h; rfl) | (obtain ⟨_, _, _, _, _, _, _, _, _, _, _, _, _, _, _, rfl, _⟩ := h; rfl) | (obtain ⟨_, _, _, _, _, _, _, _, _, _, _, _, _, _, _, _, rfl, _⟩ := h; rfl)) (fun cdv A outer s H vs Q f tl hr hL h => ?_), hm, F.kp, hb⟩
  obtain ⟨due, C, nm, f', v, rfl, ec, fv, hdue, k1, k2⟩ := h
  have D_law_e_asked := d_law_e_asked (P := P) (base := base) T
  have D_law_matches := d_law_matches (P := P) (base := base) T
  refine ⟨_, (pss_cons (ps_set (i := 2) sc_law_e_refused.nd rfl (.inl rfl) (pe_fwd (i := 0) D_law_e_asked hL rfl rfl rfl (hr.mono (by decide)) (by rfl) pa_nil))
      (pss_one (ps_ret (pe_and (pe_cmpR (op_uNe hr.units) (pe_ix ix_seq (pv 2) pe_int (fun _ _ => rfl)) pe_str (nomark _)) (pe_one (pe_dfn (D_law_matches 2) (hr.mono (by decide)) (by rfl) (pa_cons (pv 2) (pa_cons (pv 1) pa_nil)))))))), ?_⟩
  try dsimp only [cxOf, Cx.nox, Cx.wish]
  show (_ : TS) _ [some _, some _, none] _
  o_readsAll
  refine c_asked (fun nm' v' H1 => nm' = nm ∧ v' = v ∧ Same H H1) (fun _ _ => False) (fun E1 Q1 h1 h2 => k1 E1 Q1 fun d H1 e1 hd => h1 nm C f' d v H1 ec hd ⟨rfl, rfl, e1⟩) (fun nm' v' H1 hre p H2 fp e2 hp => ?_) fun _ _ h => h.elim
  obtain ⟨rfl, rfl, e1⟩ := hre
  o_readsAll
  refine brT (by rw [decide_eq_false (nm_told ec)]; rfl) ?_
  o_readsAll
  refine c_mat (alk_tup (m := 0) hp (e2 _ _ (e1 _ _ hdue)) (by simp) (fun u hu => ?_)) fun H3 e3 => ?_
  · simp only [List.mem_cons, List.not_mem_nil, or_false] at hu
    rcases hu with rfl | rfl
    · trivial
    · exact fv
  · exact k2 _ ((e1.trans e2).trans e3)
/-- a call that is answered -/
def sp_let : (XK → Hp → VK → Prop) → Sp := fun tl vs H Q _ => vs = [] ∧ (∀ E1 Q1, (∀ v H1, Same H H1 → Q1 v H1) → tl E1 H Q1) ∧ ∀ H', Same H H' → Q (.bl true) H'
theorem d_law_e_let (T : Txt K w mg Z) : DfnL P w K mg base 11 9 "_law_e_let" ["call"] (sp_let) := by
  obtain ⟨f, fd, F, hm, hb⟩ := T.f_law_e_let
  refine ⟨f, fd, okL F sc_law_e_let (fun tl vs H Q E h => by first | (obtain ⟨rfl, _⟩ := h; rfl) | (obtain ⟨_, rfl, _⟩ := h; rfl) | (obtain ⟨_, _, rfl, _⟩ := h; rfl) | (obtain ⟨_, _, _, rfl, _⟩ := h; rfl) | (obtain ⟨_, _, _, _, rfl, _⟩ := h; rfl) | (obtain ⟨_, _, _, _, _, rfl, _⟩ := h; rfl) | (obtain ⟨_, _, _, _, _, _, rfl, _⟩ := h; rfl) | (obtain ⟨_, _, _, _, _, _, _, rfl, _⟩ := h; rfl) | (obtain ⟨_, _, _, _, _, _, _, _, rfl, _⟩ := h; rfl) | (obtain ⟨_, _, _, _, _, _, _, _, _, rfl, _⟩ := h; rfl) | (obtain ⟨_, _, _, _, _, _, _, _, _, _, rfl, _⟩ := h; rfl) | (obtain ⟨_, _, _, _, _, _, _, _, _, _, _, rfl, _⟩ := h; rfl) | (obtain ⟨_, _, _, _, _, _, _, _, _, _, _, _, rfl, _⟩ := h; rfl) | (obtain ⟨_, _, _, _, _, _, _, _, _, _, _, _, _, rfl, _⟩ := h; rfl) | (obtain ⟨_, _, _, _, _, _, _, _, _, _, _, _, _, _, rfl, _⟩ := h; rfl) | (obtain ⟨_, _, _, _, _, _, _, _, _, _, _, _, _, _, _, rfl, _⟩ := h; rfl) | (obtain ⟨_, _, _, _, _, _, _, _, _, _, _, _, _, _, _, _, rfl, _⟩ := h; rfl)) (fun cdv A outer s H vs Q f tl hr hL h => ?_), hm, F.kp, hb⟩
  obtain ⟨rfl, k1, k2⟩ := h
  have D_law_e_asked := d_law_e_asked (P := P) (base := base) T
  refine ⟨_, (pss_one (ps_ret (pe_cmpR (op_uEq hr.units) (pe_ix ix_seq (pe_fwd (i := 0) D_law_e_asked hL rfl rfl rfl (hr.mono (by decide)) (by rfl) pa_nil) pe_int (fun _ _ => rfl)) pe_str (nomark _)))), ?_⟩
  try dsimp only [cxOf, Cx.nox, Cx.wish]
  show (_ : TS) _ [some _] _
  o_readsAll
  refine c_asked (fun _ _ _ => False) (fun v' H1 => Same H H1) (fun E1 Q1 h1 h2 => k1 E1 Q1 fun v H1 e1 => h2 v H1 e1) (fun _ _ _ h => h.elim) fun v H1 e1 p H2 fp e2 hp => ?_
  o_readsAll
  exact k2 _ (e1.trans e2)
theorem c_refused {tl : XK → Hp → VK → Prop} {due C : Addr} {nm f : Str} {v : V} {H : Hp} {Q : VK} {E : XK} (ec : ErrC Z nm C f) (fv : Flat v) (hd : H due = some (.tup [.str nm, v])) (h : ∀ E1 Q1, (∀ d H1, Same H H1 → H1 d = some (.xd [(f, v)]) → E1 (.ref C) (some d) H1) → tl E1 H Q1) (k : ∀ H', Same H H' → Q (.bl true) H') : sp_refused Z tl [.ref due] H Q E := ⟨due, C, nm, f, v, rfl, ec, fv, hd, h, k⟩
theorem c_let {tl : XK → Hp → VK → Prop} {H : Hp} {Q : VK} {E : XK} (h : ∀ E1 Q1, (∀ v H1, Same H H1 → Q1 v H1) → tl E1 H Q1) (k : ∀ H', Same H H' → Q (.bl true) H') : sp_let tl [] H Q E := ⟨rfl, h, k⟩
end
end L30

namespace L30
set_option exponentiation.threshold 2000
open SX Ld
section
variable {P : Program} {w : World} {K : PySem.W.Frag} {mg : Str → Option Value} {base : Heap} {Z : Ad}
theorem cutV_upto (xs : List V) (m : Nat) (h : m ≤ xs.length) : cutV xs none (some (m : Int)) = xs.take m := by
  unfold cutV
  rw [HT.sIx_none, List.drop_zero, Nat.sub_zero, HT.sIx_nat, Nat.min_eq_left h]
theorem rng_upto {n m : Nat} {f : Nat → Int} (h : m ≤ n) : cutV (rng n f) none (some (m : Int)) = rng m f := by
  rw [cutV_upto _ _ (by rw [rng_len]; exact h)]
  apply List.ext_getElem?
  intro i
  by_cases hi : i < m
  · rw [List.getElem?_take_of_lt hi, rng_at hi, rng_at (by omega)]
  · rw [List.getElem?_eq_none (by rw [List.length_take]; omega), List.getElem?_eq_none (by rw [rng_len]; omega)]
theorem LadAt.ext {C : Addr} {H H' : Hp} {l : Addr} {L : Int} {n : Nat} {fs : Nat → Int} {ret : Bool} (h : LadAt C H l L n fs ret) (e : LamX.ExtN H H') : LadAt C H' l L n fs ret := by
  obtain ⟨dx, fl, lt, hl, wl, ps, a, b, c, d, f, g, i⟩ := h
  exact ⟨dx, fl, lt, hl, wl, ps, e _ _ a (fun _ z => nomatch z), e _ _ b (fun _ z => nomatch z), e _ _ c (fun _ z => nomatch z), d, fun j q hq => e _ _ (f j q hq) (fun _ z => nomatch z), e _ _ g (fun _ z => nomatch z), e _ _ i (fun _ z => nomatch z)⟩
/-- a refusal told by its number -/
abbrev RaiseI (C : Addr) (f : Str) (v : V) (H : Hp) (E : XK) : Prop := ∀ d H', H d = none → Same H H' → H' d = some (.xd [(f, v)]) → E (.ref C) (some d) H'
def sp_crung (C CB : Addr) : Sp := fun vs H Q E => ∃ (l : Addr) (a L : Int) (n : Nat) (fs : Nat → Int) (ret : Bool), vs = [.ref l, .int a] ∧ LadAt C H l L n fs ret ∧ (0 ≤ a → a < n → Q .non H) ∧ (¬ (0 ≤ a ∧ a < n) → RaiseI CB "rung" (.int a) H E)
theorem d_Ladder_check_rung (T : Txt K w mg Z) : MthX P w K mg base 3 Z.a_Ladder "check_rung" ["self", "rung"] (sp_crung Z.a_Ladder Z.a_BadLadder) := by
  obtain ⟨f, fd, F, hm, hb⟩ := T.f_Ladder_check_rung
  refine ⟨⟨f, fd, F.okX sc_Ladder_check_rung (fun vs H Q E h => by first | (obtain ⟨rfl, _⟩ := h; rfl) | (obtain ⟨_, rfl, _⟩ := h; rfl) | (obtain ⟨_, _, rfl, _⟩ := h; rfl) | (obtain ⟨_, _, _, rfl, _⟩ := h; rfl) | (obtain ⟨_, _, _, _, rfl, _⟩ := h; rfl) | (obtain ⟨_, _, _, _, _, rfl, _⟩ := h; rfl) | (obtain ⟨_, _, _, _, _, _, rfl, _⟩ := h; rfl) | (obtain ⟨_, _, _, _, _, _, _, rfl, _⟩ := h; rfl) | (obtain ⟨_, _, _, _, _, _, _, _, rfl, _⟩ := h; rfl) | (obtain ⟨_, _, _, _, _, _, _, _, _, rfl, _⟩ := h; rfl) | (obtain ⟨_, _, _, _, _, _, _, _, _, _, rfl, _⟩ := h; rfl) | (obtain ⟨_, _, _, _, _, _, _, _, _, _, _, rfl, _⟩ := h; rfl) | (obtain ⟨_, _, _, _, _, _, _, _, _, _, _, _, rfl, _⟩ := h; rfl) | (obtain ⟨_, _, _, _, _, _, _, _, _, _, _, _, _, rfl, _⟩ := h; rfl) | (obtain ⟨_, _, _, _, _, _, _, _, _, _, _, _, _, _, rfl, _⟩ := h; rfl) | (obtain ⟨_, _, _, _, _, _, _, _, _, _, _, _, _, _, _, rfl, _⟩ := h; rfl) | (obtain ⟨_, _, _, _, _, _, _, _, _, _, _, _, _, _, _, _, rfl, _⟩ := h; rfl)) (fun cdv A outer s H vs Q E hr h => ?_), hm, hb⟩, T.l_Ladder⟩
  obtain ⟨l, a, L, n, fs, ret, rfl, ⟨dx, fl, lt, hl, wl, ps, h1, h2, h3, h4, h5, h6, h7⟩, k1, k2⟩ := h
  unfold IL at h2
  have D_BadLadder_init := d_BadLadder_init (P := P) (base := base) T
  have l_Ladder := T.l_Ladder
  have n_Ladder_falls_list := T.n_Ladder_falls_list
  refine ⟨_, (pss_one (ps_if (pt_not (pt_chain op_le op_lt pe_int (pv 1) (pe_callB call_uLen (by rfl) T.b_len bt_len (pa_cons (pe_fld (pv 0) rfl) pa_nil)))) (pss_one (ps_rs (takes_of rfl rfl rfl rfl) (pmk_iex D_BadLadder_init (hr.mono (by decide)) (by rfl) (pa_cons (pv 1) pa_nil)) rfl)) pss_nil)), ?_⟩
  try dsimp only [cxOf, Cx.nox, Cx.wish]
  show (_ : TS) _ [some _, some _] _
  o_readsAll
  refine ⟨_, rfl, ?_⟩
  refine br (fun hh1 => ?_) (fun hh1 => ?_)
  · o_readsAll
    rw [rng_len]
    refine brn (fun hh2 => ?_) (fun hh2 => ?_)
    · o_readsAll
      refine c_raise fun d H1 fd e1 hd => ?_
      exact k2 (fun z => hh2 z.2) d H1 fd e1 hd
    · o_readsAll
      exact k1 hh1 hh2
  · o_readsAll
    refine c_raise fun d H1 fd e1 hd => ?_
    exact k2 (fun z => hh1 z.1) d H1 fd e1 hd
theorem c_crung {C CB l : Addr} {a L : Int} {n : Nat} {fs : Nat → Int} {ret : Bool} {H : Hp} {Q : VK} {E : XK} (h : LadAt C H l L n fs ret) (k1 : 0 ≤ a → a < n → Q .non H) (k2 : ¬ (0 ≤ a ∧ a < n) → RaiseI CB "rung" (.int a) H E) : sp_crung C CB [.ref l, .int a] H Q E := ⟨l, a, L, n, fs, ret, rfl, h, k1, k2⟩
def sp_cplc (C CB : Addr) : Sp := fun vs H Q E => ∃ (l : Addr) (a L : Int) (n : Nat) (fs : Nat → Int) (ret : Bool), vs = [.ref l, .int a] ∧ LadAt C H l L n fs ret ∧ (-1 ≤ a → a ≤ n → Q .non H) ∧ (¬ (-1 ≤ a ∧ a ≤ n) → RaiseI CB "rung" (.int a) H E)
theorem d_Ladder_check_place (T : Txt K w mg Z) : MthX P w K mg base 3 Z.a_Ladder "check_place" ["self", "place"] (sp_cplc Z.a_Ladder Z.a_BadLadder) := by
  obtain ⟨f, fd, F, hm, hb⟩ := T.f_Ladder_check_place
  refine ⟨⟨f, fd, F.okX sc_Ladder_check_place (fun vs H Q E h => by first | (obtain ⟨rfl, _⟩ := h; rfl) | (obtain ⟨_, rfl, _⟩ := h; rfl) | (obtain ⟨_, _, rfl, _⟩ := h; rfl) | (obtain ⟨_, _, _, rfl, _⟩ := h; rfl) | (obtain ⟨_, _, _, _, rfl, _⟩ := h; rfl) | (obtain ⟨_, _, _, _, _, rfl, _⟩ := h; rfl) | (obtain ⟨_, _, _, _, _, _, rfl, _⟩ := h; rfl) | (obtain ⟨_, _, _, _, _, _, _, rfl, _⟩ := h; rfl) | (obtain ⟨_, _, _, _, _, _, _, _, rfl, _⟩ := h; rfl) | (obtain ⟨_, _, _, _, _, _, _, _, _, rfl, _⟩ := h; rfl) | (obtain ⟨_, _, _, _, _, _, _, _, _, _, rfl, _⟩ := h; rfl) | (obtain ⟨_, _, _, _, _, _, _, _, _, _, _, rfl, _⟩ := h; rfl) | (obtain ⟨_, _, _, _, _, _, _, _, _, _, _, _, rfl, _⟩ := h; rfl) | (obtain ⟨_, _, _, _, _, _, _, _, _, _, _, _, _, rfl, _⟩ := h; rfl) | (obtain ⟨_, _, _, _, _, _, _, _, _, _, _, _, _, _, rfl, _⟩ := h; rfl) | (obtain ⟨_, _, _, _, _, _, _, _, _, _, _, _, _, _, _, rfl, _⟩ := h; rfl) | (obtain ⟨_, _, _, _, _, _, _, _, _, _, _, _, _, _, _, _, rfl, _⟩ := h; rfl)) (fun cdv A outer s H vs Q E hr h => ?_), hm, hb⟩, T.l_Ladder⟩
  obtain ⟨l, a, L, n, fs, ret, rfl, ⟨dx, fl, lt, hl, wl, ps, h1, h2, h3, h4, h5, h6, h7⟩, k1, k2⟩ := h
  unfold IL at h2
  have D_BadLadder_init := d_BadLadder_init (P := P) (base := base) T
  have l_Ladder := T.l_Ladder
  have n_Ladder_falls_list := T.n_Ladder_falls_list
  refine ⟨_, (pss_one (ps_if (pt_not (pt_chain op_le op_le (pe_gi T.c_OUT) (pv 1) (pe_callB call_uLen (by rfl) T.b_len bt_len (pa_cons (pe_fld (pv 0) rfl) pa_nil)))) (pss_one (ps_rs (takes_of rfl rfl rfl rfl) (pmk_iex D_BadLadder_init (hr.mono (by decide)) (by rfl) (pa_cons (pv 1) pa_nil)) rfl)) pss_nil)), ?_⟩
  try dsimp only [cxOf, Cx.nox, Cx.wish]
  show (_ : TS) _ [some _, some _] _
  o_readsAll
  refine ⟨_, rfl, ?_⟩
  refine br (fun hh1 => ?_) (fun hh1 => ?_)
  · o_readsAll
    rw [rng_len]
    refine brn (fun hh2 => ?_) (fun hh2 => ?_)
    · o_readsAll
      refine c_raise fun d H1 fd e1 hd => ?_
      exact k2 (fun z => hh2 z.2) d H1 fd e1 hd
    · o_readsAll
      exact k1 hh1 hh2
  · o_readsAll
    refine c_raise fun d H1 fd e1 hd => ?_
    exact k2 (fun z => hh1 z.1) d H1 fd e1 hd
theorem c_cplc {C CB l : Addr} {a L : Int} {n : Nat} {fs : Nat → Int} {ret : Bool} {H : Hp} {Q : VK} {E : XK} (h : LadAt C H l L n fs ret) (k1 : -1 ≤ a → a ≤ n → Q .non H) (k2 : ¬ (-1 ≤ a ∧ a ≤ n) → RaiseI CB "rung" (.int a) H E) : sp_cplc C CB [.ref l, .int a] H Q E := ⟨l, a, L, n, fs, ret, rfl, h, k1, k2⟩
def sp_lfalls (C : Addr) : Sp := fun vs H Q _ => ∃ (l : Addr) (L : Int) (n : Nat) (fs : Nat → Int) (ret : Bool), vs = [.ref l] ∧ LadAt C H l L n fs ret ∧ ∀ p H', H p = none → Same H H' → IL H' p n fs → Q (.ref p) H'
theorem d_Ladder_falls (T : Txt K w mg Z) : Mth P w K mg base 1 Z.a_Ladder "falls" ["self"] (sp_lfalls Z.a_Ladder) := by
  obtain ⟨f, fd, F, hm, hb⟩ := T.f_Ladder_falls
  refine ⟨⟨f, fd, F.ok sc_Ladder_falls (fun vs H Q E h => by first | (obtain ⟨rfl, _⟩ := h; rfl) | (obtain ⟨_, rfl, _⟩ := h; rfl) | (obtain ⟨_, _, rfl, _⟩ := h; rfl) | (obtain ⟨_, _, _, rfl, _⟩ := h; rfl) | (obtain ⟨_, _, _, _, rfl, _⟩ := h; rfl) | (obtain ⟨_, _, _, _, _, rfl, _⟩ := h; rfl) | (obtain ⟨_, _, _, _, _, _, rfl, _⟩ := h; rfl) | (obtain ⟨_, _, _, _, _, _, _, rfl, _⟩ := h; rfl) | (obtain ⟨_, _, _, _, _, _, _, _, rfl, _⟩ := h; rfl) | (obtain ⟨_, _, _, _, _, _, _, _, _, rfl, _⟩ := h; rfl) | (obtain ⟨_, _, _, _, _, _, _, _, _, _, rfl, _⟩ := h; rfl) | (obtain ⟨_, _, _, _, _, _, _, _, _, _, _, rfl, _⟩ := h; rfl) | (obtain ⟨_, _, _, _, _, _, _, _, _, _, _, _, rfl, _⟩ := h; rfl) | (obtain ⟨_, _, _, _, _, _, _, _, _, _, _, _, _, rfl, _⟩ := h; rfl) | (obtain ⟨_, _, _, _, _, _, _, _, _, _, _, _, _, _, rfl, _⟩ := h; rfl) | (obtain ⟨_, _, _, _, _, _, _, _, _, _, _, _, _, _, _, rfl, _⟩ := h; rfl) | (obtain ⟨_, _, _, _, _, _, _, _, _, _, _, _, _, _, _, _, rfl, _⟩ := h; rfl)) (fun cdv A outer s H vs Q E hr h => ?_), hm, hb⟩, T.l_Ladder⟩
  obtain ⟨l, L, n, fs, ret, rfl, ⟨dx, fl, lt, hl, wl, ps, h1, h2, h3, h4, h5, h6, h7⟩, k⟩ := h
  unfold IL at h2
  have l_Ladder := T.l_Ladder
  have n_Ladder_falls_list := T.n_Ladder_falls_list
  refine ⟨_, (pss_one (ps_ret (pe_callTy call_uList (by rfl) T.b_list bt_list (pa_cons (pe_fld (pv 0) rfl) pa_nil)))), ?_⟩
  try dsimp only [cxOf, Cx.nox, Cx.wish]
  show (_ : TS) _ [some _] _
  o_readsAll
  exact k _ _ (by assumption) (by assumption) (by assumption)
theorem c_lfalls {C l : Addr} {L : Int} {n : Nat} {fs : Nat → Int} {ret : Bool} {H : Hp} {Q : VK} {E : XK} (h : LadAt C H l L n fs ret) (k : ∀ p H', H p = none → Same H H' → IL H' p n fs → Q (.ref p) H') : sp_lfalls C [.ref l] H Q E := ⟨l, L, n, fs, ret, rfl, h, k⟩
def sp_lfall (C CB : Addr) : Sp := fun vs H Q E => ∃ (l : Addr) (a L : Int) (n : Nat) (fs : Nat → Int) (ret : Bool), vs = [.ref l, .int a] ∧ LadAt C H l L n fs ret ∧ (∀ a' : Nat, a = a' → a' < n → Q (.int (fs a')) H) ∧ (¬ (0 ≤ a ∧ a < n) → RaiseI CB "rung" (.int a) H E)
theorem d_Ladder_fall (T : Txt K w mg Z) : MthX P w K mg base 4 Z.a_Ladder "fall" ["self", "a"] (sp_lfall Z.a_Ladder Z.a_BadLadder) := by
  obtain ⟨f, fd, F, hm, hb⟩ := T.f_Ladder_fall
  refine ⟨⟨f, fd, F.okX sc_Ladder_fall (fun vs H Q E h => by first | (obtain ⟨rfl, _⟩ := h; rfl) | (obtain ⟨_, rfl, _⟩ := h; rfl) | (obtain ⟨_, _, rfl, _⟩ := h; rfl) | (obtain ⟨_, _, _, rfl, _⟩ := h; rfl) | (obtain ⟨_, _, _, _, rfl, _⟩ := h; rfl) | (obtain ⟨_, _, _, _, _, rfl, _⟩ := h; rfl) | (obtain ⟨_, _, _, _, _, _, rfl, _⟩ := h; rfl) | (obtain ⟨_, _, _, _, _, _, _, rfl, _⟩ := h; rfl) | (obtain ⟨_, _, _, _, _, _, _, _, rfl, _⟩ := h; rfl) | (obtain ⟨_, _, _, _, _, _, _, _, _, rfl, _⟩ := h; rfl) | (obtain ⟨_, _, _, _, _, _, _, _, _, _, rfl, _⟩ := h; rfl) | (obtain ⟨_, _, _, _, _, _, _, _, _, _, _, rfl, _⟩ := h; rfl) | (obtain ⟨_, _, _, _, _, _, _, _, _, _, _, _, rfl, _⟩ := h; rfl) | (obtain ⟨_, _, _, _, _, _, _, _, _, _, _, _, _, rfl, _⟩ := h; rfl) | (obtain ⟨_, _, _, _, _, _, _, _, _, _, _, _, _, _, rfl, _⟩ := h; rfl) | (obtain ⟨_, _, _, _, _, _, _, _, _, _, _, _, _, _, _, rfl, _⟩ := h; rfl) | (obtain ⟨_, _, _, _, _, _, _, _, _, _, _, _, _, _, _, _, rfl, _⟩ := h; rfl)) (fun cdv A outer s H vs Q E hr h => ?_), hm, hb⟩, T.l_Ladder⟩
  obtain ⟨l, a, L, n, fs, ret, rfl, hL, k1, k2⟩ := h
  have hL' := hL
  obtain ⟨dx, fl, lt, hl, wl, ps, h1, h2, h3, h4, h5, h6, h7⟩ := hL'
  have D_Ladder_check_rung := d_Ladder_check_rung (P := P) (base := base) T
  have l_Ladder := T.l_Ladder
  have n_Ladder_falls_list := T.n_Ladder_falls_list
  refine ⟨_, (pss_cons (ps_expr (pe_mthS D_Ladder_check_rung (hr.mono (by decide)) (takes_of rfl rfl rfl rfl) (pv 0) (pa_cons (pv 1) pa_nil)))
      (pss_one (ps_ret (pe_ix ix_seq (pe_fld (pv 0) rfl) (pv 1) (fun _ _ => rfl))))), ?_⟩
  try dsimp only [cxOf, Cx.nox, Cx.wish]
  show (_ : TS) _ [some _, some _] _
  o_readsAll
  refine c_crung hL (fun a0 a1 => ?_) k2
  obtain ⟨a, rfl⟩ : ∃ a' : Nat, a = a' := ⟨a.toNat, by omega⟩
  o_readsAll
  refine g_ixL h2.sq (atI_nat (rng_at (by omega))) ?_
  exact k1 a rfl (by omega)
theorem c_lfall {C CB l : Addr} {a : Nat} {L : Int} {n : Nat} {fs : Nat → Int} {ret : Bool} {H : Hp} {Q : VK} {E : XK} (h : LadAt C H l L n fs ret) (ha : a < n) (k : Q (.int (fs a)) H) : sp_lfall C CB [.ref l, .int (a : Int)] H Q E := ⟨l, a, L, n, fs, ret, rfl, h, fun a' e _ => (show a = a' by omega) ▸ k, fun h => absurd ⟨by omega, by omega⟩ h⟩
def sp_lval (C CB : Addr) (v : Int → (Nat → Int) → Nat → Int) : Sp := fun vs H Q E => ∃ (l : Addr) (b L : Int) (n : Nat) (fs : Nat → Int) (ret : Bool), vs = [.ref l, .int b] ∧ LadAt C H l L n fs ret ∧ (b = -1 → Q (.int 0) H) ∧ (∀ b' : Nat, b = b' → b' ≤ n → Q (.int (v L fs b')) H) ∧ (¬ (-1 ≤ b ∧ b ≤ n) → RaiseI CB "rung" (.int b) H E)
theorem d_Ladder_heads (T : Txt K w mg Z) : MthX P w K mg base 4 Z.a_Ladder "heads" ["self", "b"] (sp_lval Z.a_Ladder Z.a_BadLadder hd) := by
  obtain ⟨f, fd, F, hm, hb⟩ := T.f_Ladder_heads
  refine ⟨⟨f, fd, F.okX sc_Ladder_heads (fun vs H Q E h => by first | (obtain ⟨rfl, _⟩ := h; rfl) | (obtain ⟨_, rfl, _⟩ := h; rfl) | (obtain ⟨_, _, rfl, _⟩ := h; rfl) | (obtain ⟨_, _, _, rfl, _⟩ := h; rfl) | (obtain ⟨_, _, _, _, rfl, _⟩ := h; rfl) | (obtain ⟨_, _, _, _, _, rfl, _⟩ := h; rfl) | (obtain ⟨_, _, _, _, _, _, rfl, _⟩ := h; rfl) | (obtain ⟨_, _, _, _, _, _, _, rfl, _⟩ := h; rfl) | (obtain ⟨_, _, _, _, _, _, _, _, rfl, _⟩ := h; rfl) | (obtain ⟨_, _, _, _, _, _, _, _, _, rfl, _⟩ := h; rfl) | (obtain ⟨_, _, _, _, _, _, _, _, _, _, rfl, _⟩ := h; rfl) | (obtain ⟨_, _, _, _, _, _, _, _, _, _, _, rfl, _⟩ := h; rfl) | (obtain ⟨_, _, _, _, _, _, _, _, _, _, _, _, rfl, _⟩ := h; rfl) | (obtain ⟨_, _, _, _, _, _, _, _, _, _, _, _, _, rfl, _⟩ := h; rfl) | (obtain ⟨_, _, _, _, _, _, _, _, _, _, _, _, _, _, rfl, _⟩ := h; rfl) | (obtain ⟨_, _, _, _, _, _, _, _, _, _, _, _, _, _, _, rfl, _⟩ := h; rfl) | (obtain ⟨_, _, _, _, _, _, _, _, _, _, _, _, _, _, _, _, rfl, _⟩ := h; rfl)) (fun cdv A outer s H vs Q E hr h => ?_), hm, hb⟩, T.l_Ladder⟩
  obtain ⟨l, b, L, n, fs, ret, rfl, hL, k1, k2, k3⟩ := h
  have hL' := hL
  obtain ⟨dx, fl, lt, hl, wl, ps, h1, h2, h3, h4, h5, h6, h7⟩ := hL'
  have D_Ladder_check_place := d_Ladder_check_place (P := P) (base := base) T
  have l_Ladder := T.l_Ladder
  have n_Ladder_heads_list := T.n_Ladder_heads_list
  refine ⟨_, (pss_cons (ps_expr (pe_mthS D_Ladder_check_place (hr.mono (by decide)) (takes_of rfl rfl rfl rfl) (pv 0) (pa_cons (pv 1) pa_nil)))
      (pss_one (ps_ret (pe_ifExp (pt_cmpR (op_uEq hr.units) (pv 1) (pe_gi T.c_OUT) (nomark _)) pe_int (pe_ix ix_seq (pe_fld (pv 0) rfl) (pv 1) (fun _ _ => rfl)))))), ?_⟩
  try dsimp only [cxOf, Cx.nox, Cx.wish]
  show (_ : TS) _ [some _, some _] _
  o_readsAll
  refine c_cplc hL (fun a0 a1 => ?_) k3
  o_readsAll
  refine br (fun hb => ?_) (fun hb => ?_)
  · o_readsAll
    exact k1 hb
  · o_readsAll
    obtain ⟨b, rfl⟩ : ∃ a' : Nat, b = a' := ⟨b.toNat, by omega⟩
    refine g_ixL h6.sq (atI_nat (rng_at (by omega))) ?_
    exact k2 b rfl (by omega)
theorem c_lval {C CB l : Addr} {b : Nat} {L : Int} {n : Nat} {fs : Nat → Int} {ret : Bool} {v : Int → (Nat → Int) → Nat → Int} {H : Hp} {Q : VK} {E : XK} (h : LadAt C H l L n fs ret) (hb : b ≤ n) (k : Q (.int (v L fs b)) H) : sp_lval C CB v [.ref l, .int (b : Int)] H Q E := ⟨l, b, L, n, fs, ret, rfl, h, fun h => absurd h (by omega), fun b' e _ => (show b = b' by omega) ▸ k, fun h => absurd ⟨by omega, by omega⟩ h⟩
def sp_lload (C CB : Addr) : Sp := fun vs H Q E => ∃ (l : Addr) (a b L : Int) (n : Nat) (fs : Nat → Int) (ret : Bool), vs = [.ref l, .int a, .int b] ∧ LadAt C H l L n fs ret ∧ (0 ≤ a → a < n → b = -1 → Q (.int 0) H) ∧ (∀ a' b' : Nat, a = a' → b = b' → a' < n → b' ≤ n → Q (.int (ld L fs a' b')) H) ∧ (¬ (0 ≤ a ∧ a < n) → RaiseI CB "rung" (.int a) H E) ∧ (0 ≤ a → a < n → ¬ (-1 ≤ b ∧ b ≤ n) → RaiseI CB "rung" (.int b) H E)
theorem c_lload {C CB l : Addr} {a b : Nat} {L : Int} {n : Nat} {fs : Nat → Int} {ret : Bool} {H : Hp} {Q : VK} {E : XK} (h : LadAt C H l L n fs ret) (ha : a < n) (hb : b ≤ n) (k : Q (.int (ld L fs a b)) H) : sp_lload C CB [.ref l, .int (a : Int), .int (b : Int)] H Q E := ⟨l, a, b, L, n, fs, ret, rfl, h, fun _ _ h => absurd h (by omega), fun a' b' e1 e2 _ _ => (show a = a' by omega) ▸ (show b = b' by omega) ▸ k, fun h => absurd ⟨by omega, by omega⟩ h, fun _ _ h => absurd ⟨by omega, by omega⟩ h⟩
def sp_lcut (C CB : Addr) : Sp := fun vs H Q E => ∃ (l : Addr) (a L : Int) (n : Nat) (fs : Nat → Int) (ret : Bool), vs = [.ref l, .int a] ∧ LadAt C H l L n fs ret ∧ 2 ≤ L ∧ L ≤ 6 ∧ n ≤ 40 ∧ OkF fs ∧ (∀ a' : Nat, a = a' → 1 ≤ a' → a' ≤ n → ∀ l' H', H l' = none → Same H H' → LadFr C H H' l' L a' fs false → Q (.ref l') H') ∧ (¬ (1 ≤ a ∧ a ≤ n) → RaiseI CB "rung" (.int a) H E)
theorem c_lcut {C CB l : Addr} {a : Nat} {L : Int} {n : Nat} {fs : Nat → Int} {ret : Bool} {H : Hp} {Q : VK} {E : XK} (h : LadAt C H l L n fs ret) (l2 : 2 ≤ L) (l6 : L ≤ 6) (n40 : n ≤ 40) (ok : OkF fs) (a1 : 1 ≤ a) (an : a ≤ n) (k : ∀ l' H', H l' = none → Same H H' → LadFr C H H' l' L a fs false → Q (.ref l') H') : sp_lcut C CB [.ref l, .int (a : Int)] H Q E := ⟨l, a, L, n, fs, ret, rfl, h, l2, l6, n40, ok, fun a' e _ _ => (show a = a' by omega) ▸ k, fun h => absurd ⟨by omega, by omega⟩ h⟩
end
end L30

namespace L30
set_option exponentiation.threshold 2000
open SX Ld
section
variable {P : Program} {w : World} {K : PySem.W.Frag} {mg : Str → Option Value} {base : Heap} {Z : Ad}
/-- the first place at which something holds -/
def fb (p : Nat → Prop) [DecidablePred p] : Nat → Option Nat
  | 0 => none
  | n + 1 => match fb p n with
    | some i => some i
    | none => if p n then some n else none
theorem fb_none {p : Nat → Prop} [DecidablePred p] : ∀ {n : Nat}, (∀ i, i < n → ¬ p i) → fb p n = none
  | 0, _ => rfl
  | n + 1, h => by
    show (match fb p n with | some i => some i | none => if p n then some n else none) = none
    rw [fb_none fun i hi => h i (by omega)]
    exact if_neg (h n (by omega))
theorem fb_at {p : Nat → Prop} [DecidablePred p] {i : Nat} (hp : p i) (h : ∀ j, j < i → ¬ p j) : ∀ {n : Nat}, i < n → fb p n = some i
  | 0, hi => by omega
  | n + 1, hi => by
    show (match fb p n with | some i => some i | none => if p n then some n else none) = some i
    by_cases e : i = n
    · subst e
      rw [fb_none h]
      exact if_pos hp
    · rw [fb_at hp h (n := n) (by omega)]
theorem fb_cases {p : Nat → Prop} [DecidablePred p] : ∀ (n : Nat), (fb p n = none ∧ ∀ i, i < n → ¬ p i) ∨ ∃ i, fb p n = some i ∧ i < n ∧ p i ∧ ∀ j, j < i → ¬ p j
  | 0 => .inl ⟨rfl, fun i hi => by omega⟩
  | n + 1 => by
    rcases fb_cases (p := p) n with ⟨h1, h2⟩ | ⟨i, h1, h2, h3, h4⟩
    · by_cases hn : p n
      · exact .inr ⟨n, fb_at hn h2 (by omega), by omega, hn, h2⟩
      · refine .inl ⟨fb_none fun i hi => ?_, fun i hi => ?_⟩ <;>
        · by_cases e : i = n
          · rw [e]; exact hn
          · exact h2 i (by omega)
    · exact .inr ⟨i, fb_at h3 h4 (by omega), by omega, h3, h4⟩
/-- from the end: the least one met so far -/
def lastB (p : Nat → Prop) (n m : Nat) (o : Option Nat) : Prop := match o with
  | none => ∀ j, m ≤ j → j < n → ¬ p j
  | some r => m ≤ r ∧ r < n ∧ p r ∧ ∀ j, m ≤ j → j < r → ¬ p j
theorem lastB_fb {p : Nat → Prop} [DecidablePred p] {n : Nat} {o : Option Nat} (h : lastB p n 0 o) : o = fb p n := by
  cases o with
  | none => exact (fb_none fun i hi => h i (by omega) hi).symm
  | some r => exact (fb_at h.2.2.1 (fun j hj => h.2.2.2 j (by omega) hj) h.2.1).symm
theorem lastB_yes {p : Nat → Prop} {n m : Nat} {o : Option Nat} (h : lastB p n (m + 1) o) (hm : m < n) (hp : p m) : lastB p n m (some m) := ⟨by omega, hm, hp, fun j h1 h2 => by omega⟩
theorem lastB_no {p : Nat → Prop} {n m : Nat} {o : Option Nat} (h : lastB p n (m + 1) o) (hp : ¬ p m) : lastB p n m o := by
  have q : ∀ j, (j ≠ m → ¬ p j) → ¬ p j := fun j h => by
    by_cases e : j = m
    · rw [e]; exact hp
    · exact h e
  cases o with
  | none => exact fun j h1 h2 => q j fun e => h j (by omega) h2
  | some r => exact ⟨by have := h.1; omega, h.2.1, h.2.2.1, fun j h1 h2 => q j fun e => h.2.2.2 j (by omega) h2⟩
theorem lastB_start (p : Nat → Prop) (n : Nat) : lastB p n n none := fun j h1 h2 => by omega
end
end L30

namespace L30
set_option exponentiation.threshold 9000
open SX Ld
section
variable {P : Program} {w : World} {K : PySem.W.Frag} {mg : Str → Option Value} {base : Heap} {Z : Ad}
theorem gcd_step (h l : Nat) : Nat.gcd l (h - h / l * l) = Nat.gcd h l := by
  have e : h - h / l * l = h % l := by
    have := Nat.div_add_mod h l
    rw [Nat.mul_comm] at this
    omega
  rw [e, Nat.gcd_comm l, ← Nat.gcd_rec l h, Nat.gcd_comm]
theorem step_cast (h l : Nat) (l0 : 0 < l) : (h : Int) - (h : Int) / (l : Int) * (l : Int) = ((h - h / l * l : Nat) : Int) ∧ h - h / l * l < l := by
  have e : h - h / l * l = h % l := by
    have := Nat.div_add_mod h l
    rw [Nat.mul_comm] at this
    omega
  have h2 : h / l * l ≤ h := Nat.div_mul_le_self h l
  refine ⟨by rw [Int.ofNat_sub h2]; rfl, by rw [e]; exact Nat.mod_lt _ l0⟩
theorem nb_div {x l : Nat} (h : x < 2 ^ 8000) : ((x : Int) / (l : Int)).natAbs < 2 ^ 8000 := by
  rw [show (x : Int) / (l : Int) = ((x / l : Nat) : Int) from rfl, Int.natAbs_natCast]
  exact Nat.lt_of_le_of_lt (Nat.div_le_self x l) h
def sp_common : Sp := fun vs H Q _ => ∃ (a b : Int), vs = [.int a, .int b] ∧ a.natAbs < 2 ^ 8000 ∧ b.natAbs < 2 ^ 8000 ∧ Q (.int (Nat.gcd a.natAbs b.natAbs : Nat)) H
theorem d_common (T : Txt K w mg Z) : Dfn P w K mg base 1 "common" ["a", "b"] (sp_common) := by
  obtain ⟨f, fd, F, hm, hb⟩ := T.f_common
  refine ⟨f, fd, F.ok sc_common (fun vs H Q E h => by first | (obtain ⟨rfl, _⟩ := h; rfl) | (obtain ⟨_, rfl, _⟩ := h; rfl) | (obtain ⟨_, _, rfl, _⟩ := h; rfl) | (obtain ⟨_, _, _, rfl, _⟩ := h; rfl) | (obtain ⟨_, _, _, _, rfl, _⟩ := h; rfl) | (obtain ⟨_, _, _, _, _, rfl, _⟩ := h; rfl) | (obtain ⟨_, _, _, _, _, _, rfl, _⟩ := h; rfl) | (obtain ⟨_, _, _, _, _, _, _, rfl, _⟩ := h; rfl) | (obtain ⟨_, _, _, _, _, _, _, _, rfl, _⟩ := h; rfl) | (obtain ⟨_, _, _, _, _, _, _, _, _, rfl, _⟩ := h; rfl) | (obtain ⟨_, _, _, _, _, _, _, _, _, _, rfl, _⟩ := h; rfl) | (obtain ⟨_, _, _, _, _, _, _, _, _, _, _, rfl, _⟩ := h; rfl) | (obtain ⟨_, _, _, _, _, _, _, _, _, _, _, _, rfl, _⟩ := h; rfl) | (obtain ⟨_, _, _, _, _, _, _, _, _, _, _, _, _, rfl, _⟩ := h; rfl) | (obtain ⟨_, _, _, _, _, _, _, _, _, _, _, _, _, _, rfl, _⟩ := h; rfl) | (obtain ⟨_, _, _, _, _, _, _, _, _, _, _, _, _, _, _, rfl, _⟩ := h; rfl) | (obtain ⟨_, _, _, _, _, _, _, _, _, _, _, _, _, _, _, _, rfl, _⟩ := h; rfl)) (fun cdv A outer s H vs Q E hr h => ?_), hm, F.kp, hb⟩
  obtain ⟨a, b, rfl, ab, bb, k⟩ := h
  refine ⟨_, (pss_cons (ps_par (i := 2) (j := 3) (by rfl) sc_common.nd rfl rfl (by decide) rfl rfl (pa_cons (pe_callB call_uAbs (by rfl) T.b_abs bt_abs (pa_cons (pv 0) pa_nil)) (pa_cons (pe_callB call_uAbs (by rfl) T.b_abs bt_abs (pa_cons (pv 1) pa_nil)) pa_nil)) (by rfl))
      (pss_cons (ps_while PassesOwn.never (pt_cmpR op_gt (pv 3) pe_int (nomark _)) (pss_one (ps_par (i := 2) (j := 3) (by rfl) sc_common.nd rfl rfl (by decide) rfl rfl (pa_cons (pv 3) (pa_cons (pe_op op_sub (pv 2) (pe_op op_uMul (pe_op op_uDiv (pv 2) (pv 3)) (pv 3))) pa_nil)) (by rfl))))
      (pss_one (ps_ret (pv 2))))), ?_⟩
  try dsimp only [cxOf, Cx.nox, Cx.wish]
  show (_ : TS) _ [some _, some _, none, none] _
  o_readsAll
  refine ⟨_, _, rfl, ?_⟩
  rw [show (if a < 0 then -a else a) = ((a.natAbs : Nat) : Int) by split <;> omega, show (if b < 0 then -b else b) = ((b.natAbs : Nat) : Int) by split <;> omega]
  generalize a.natAbs = an at *
  generalize b.natAbs = bn at *
  o_readsAll
  refine ⟨fun m σ' H' => ∃ (x l : Nat), σ' = [some (.int a), some (.int b), some (.int (x : Int)), some (.int (l : Int))] ∧ H' = H ∧ Nat.gcd x l = Nat.gcd an bn ∧ l = m ∧ l < 2 ^ 8000 ∧ x < 2 ^ 8000, ⟨bn, _, _, rfl, rfl, rfl, rfl, bb, ab⟩, ?_⟩
  rintro m σ' H' ⟨x, l, rfl, rfl, hg, hm, hb, hx⟩
  o_readsAll
  refine br (fun hc => ?_) (fun hc => ?_)
  · refine ⟨_, fun σ2 H2 h => h, ?_⟩
    have hl : 0 < l := by omega
    obtain ⟨c1, c2⟩ := step_cast x l hl
    o_readsAll
    refine g_divW (k := 8000) (by omega) (by rw [Int.natAbs_natCast]; exact hb) (by decide) ?_
    o_readsAll
    refine g_mulW (mul_nb (m := 8000) (n := 8000) (nb_div hx) (by rw [Int.natAbs_natCast]; exact hb) (by decide)) ?_
    o_readsAll
    rw [c1]
    exact ⟨_, _, rfl, _, hm ▸ c2, l, x - x / l * l, rfl, rfl, (gcd_step x l).trans hg, rfl, Nat.lt_trans c2 hb, hb⟩
  · have hl : l = 0 := by omega
    subst hl
    rw [Nat.gcd_zero_right] at hg
    o_readsAll
    rw [hg]
    exact k
def sp_ecommon : Sp := fun vs H Q _ => ∃ (a b : Nat), vs = [.int (a : Int), .int (b : Int)] ∧ a < 2 ^ 8000 ∧ b < 2 ^ 8000 ∧ Q (.int (Nat.gcd a b : Nat)) H
theorem d_law_e_common (T : Txt K w mg Z) : Dfn P w K mg base 1 "_law_e_common" ["a", "b"] (sp_ecommon) := by
  obtain ⟨f, fd, F, hm, hb⟩ := T.f_law_e_common
  refine ⟨f, fd, F.ok sc_law_e_common (fun vs H Q E h => by first | (obtain ⟨rfl, _⟩ := h; rfl) | (obtain ⟨_, rfl, _⟩ := h; rfl) | (obtain ⟨_, _, rfl, _⟩ := h; rfl) | (obtain ⟨_, _, _, rfl, _⟩ := h; rfl) | (obtain ⟨_, _, _, _, rfl, _⟩ := h; rfl) | (obtain ⟨_, _, _, _, _, rfl, _⟩ := h; rfl) | (obtain ⟨_, _, _, _, _, _, rfl, _⟩ := h; rfl) | (obtain ⟨_, _, _, _, _, _, _, rfl, _⟩ := h; rfl) | (obtain ⟨_, _, _, _, _, _, _, _, rfl, _⟩ := h; rfl) | (obtain ⟨_, _, _, _, _, _, _, _, _, rfl, _⟩ := h; rfl) | (obtain ⟨_, _, _, _, _, _, _, _, _, _, rfl, _⟩ := h; rfl) | (obtain ⟨_, _, _, _, _, _, _, _, _, _, _, rfl, _⟩ := h; rfl) | (obtain ⟨_, _, _, _, _, _, _, _, _, _, _, _, rfl, _⟩ := h; rfl) | (obtain ⟨_, _, _, _, _, _, _, _, _, _, _, _, _, rfl, _⟩ := h; rfl) | (obtain ⟨_, _, _, _, _, _, _, _, _, _, _, _, _, _, rfl, _⟩ := h; rfl) | (obtain ⟨_, _, _, _, _, _, _, _, _, _, _, _, _, _, _, rfl, _⟩ := h; rfl) | (obtain ⟨_, _, _, _, _, _, _, _, _, _, _, _, _, _, _, _, rfl, _⟩ := h; rfl)) (fun cdv A outer s H vs Q E hr h => ?_), hm, F.kp, hb⟩
  obtain ⟨a, b, rfl, ab, bb, k⟩ := h
  refine ⟨_, (pss_cons (ps_set (i := 2) sc_law_e_common.nd rfl (.inl rfl) (pe_callB (call_uMax2 rfl) (by rfl) T.b_max bt_max (pa_cons (pv 0) (pa_cons (pv 1) pa_nil))))
      (pss_cons (ps_set (i := 3) sc_law_e_common.nd rfl (.inl rfl) (pe_callB (call_uMin2 rfl) (by rfl) T.b_min bt_min (pa_cons (pv 0) (pa_cons (pv 1) pa_nil))))
      (pss_cons (ps_while PassesOwn.never (pt_cmpR op_gt (pv 3) pe_int (nomark _)) (pss_cons (ps_set (i := 4) sc_law_e_common.nd rfl (.inl rfl) (pe_op op_sub (pv 2) (pe_op op_uMul (pe_op op_uDiv (pv 2) (pv 3)) (pv 3))))
      (pss_cons (ps_set (i := 2) sc_law_e_common.nd rfl (.inl rfl) (pv 3))
      (pss_one (ps_set (i := 3) sc_law_e_common.nd rfl (.inl rfl) (pv 4))))))
      (pss_one (ps_ret (pv 2)))))), ?_⟩
  try dsimp only [cxOf, Cx.nox, Cx.wish]
  show (_ : TS) _ [some _, some _, none, none, none] _
  o_readsAll
  have e1 : (if (b : Int) > (a : Int) then (b : Int) else (a : Int)) = ((max a b : Nat) : Int) := by split <;> omega
  have e2 : (if (b : Int) < (a : Int) then (b : Int) else (a : Int)) = ((min a b : Nat) : Int) := by split <;> omega
  have e3 : Nat.gcd (max a b) (min a b) = Nat.gcd a b := by
    rcases Nat.le_total a b with h | h
    · rw [Nat.max_eq_right h, Nat.min_eq_left h, Nat.gcd_comm]
    · rw [Nat.max_eq_left h, Nat.min_eq_right h]
  rw [e1, e2]
  refine ⟨fun m σ' H' => ∃ (x l : Nat) (y : Option V), σ' = [some (.int a), some (.int b), some (.int (x : Int)), some (.int (l : Int)), y] ∧ H' = H ∧ Nat.gcd x l = Nat.gcd a b ∧ l = m ∧ l < 2 ^ 8000 ∧ x < 2 ^ 8000, ⟨_, _, _, _, rfl, rfl, e3, rfl, by omega, by omega⟩, ?_⟩
  rintro m σ' H' ⟨x, l, y, rfl, rfl, hg, hm, hb, hx⟩
  o_readsAll
  refine br (fun hc => ?_) (fun hc => ?_)
  · refine ⟨_, fun σ2 H2 h => h, ?_⟩
    have hl : 0 < l := by omega
    obtain ⟨c1, c2⟩ := step_cast x l hl
    o_readsAll
    refine g_divW (k := 8000) (by omega) (by rw [Int.natAbs_natCast]; exact hb) (by decide) ?_
    o_readsAll
    refine g_mulW (mul_nb (m := 8000) (n := 8000) (nb_div hx) (by rw [Int.natAbs_natCast]; exact hb) (by decide)) ?_
    o_readsAll
    rw [c1]
    exact ⟨_, hm ▸ c2, l, x - x / l * l, _, rfl, rfl, (gcd_step x l).trans hg, rfl, Nat.lt_trans c2 hb, hb⟩
  · have hl : l = 0 := by omega
    subst hl
    rw [Nat.gcd_zero_right] at hg
    o_readsAll
    rw [hg]
    exact k
/-- a fraction in lowest terms -/
def fr1 (a b : Int) : Int := a / (Nat.gcd a.natAbs b.natAbs : Nat)
def fr2 (a b : Int) : Int := b / (Nat.gcd a.natAbs b.natAbs : Nat)
def FrAt (H : Hp) (p : Addr) (a b : Int) : Prop := H p = some (.tup [.int (fr1 a b), .int (fr2 a b)])
theorem gcd_pos {a b : Int} (hb : 0 < b) : 0 < Nat.gcd a.natAbs b.natAbs := Nat.gcd_pos_of_pos_right _ (by omega)
theorem gcd_nb {a b : Int} {k : Nat} (hb : 0 < b) (h : b.natAbs < 2 ^ k) : (((Nat.gcd a.natAbs b.natAbs : Nat) : Int)).natAbs < 2 ^ k := by
  rw [Int.natAbs_natCast]
  exact Nat.lt_of_le_of_lt (Nat.le_of_dvd (by omega) (Nat.gcd_dvd_right _ _)) h
theorem fr_eq {a b : Int} (hb : 0 < b) : a = fr1 a b * (Nat.gcd a.natAbs b.natAbs : Nat) ∧ b = fr2 a b * (Nat.gcd a.natAbs b.natAbs : Nat) := by
  have h1 : ((Nat.gcd a.natAbs b.natAbs : Nat) : Int) ∣ a := Int.ofNat_dvd_left.mpr (Nat.gcd_dvd_left _ _)
  have h2 : ((Nat.gcd a.natAbs b.natAbs : Nat) : Int) ∣ b := Int.ofNat_dvd_left.mpr (Nat.gcd_dvd_right _ _)
  exact ⟨(Int.ediv_mul_cancel h1).symm, (Int.ediv_mul_cancel h2).symm⟩
theorem fr2_pos {a b : Int} (hb : 0 < b) : 0 < fr2 a b := by
  have h := (fr_eq (a := a) hb).2
  have g := gcd_pos (a := a) hb
  by_cases h0 : 0 < fr2 a b
  · exact h0
  · have : fr2 a b * (Nat.gcd a.natAbs b.natAbs : Nat) ≤ 0 := Int.mul_nonpos_of_nonpos_of_nonneg (by omega) (by omega)
    omega
theorem fr_scale {a b g : Int} (hg : 0 < g) : fr1 (g * a) (g * b) = fr1 a b ∧ fr2 (g * a) (g * b) = fr2 a b := by
  have e : ((Nat.gcd (g * a).natAbs (g * b).natAbs : Nat) : Int) = g * (Nat.gcd a.natAbs b.natAbs : Nat) := by
    rw [Int.natAbs_mul, Int.natAbs_mul, Nat.gcd_mul_left, Int.natCast_mul]
    congr 1
    omega
  unfold fr1 fr2
  rw [e]
  exact ⟨Int.mul_ediv_mul_of_pos _ _ hg, Int.mul_ediv_mul_of_pos _ _ hg⟩
theorem fr_bd {a b : Int} {k : Nat} (hb : 0 < b) (h : a.natAbs < 2 ^ k) : (fr1 a b).natAbs < 2 ^ k := by
  have e := (fr_eq (a := a) hb).1
  have g := gcd_pos (a := a) hb
  have : a.natAbs = (fr1 a b).natAbs * Nat.gcd a.natAbs b.natAbs := by
    have := congrArg Int.natAbs e
    rw [Int.natAbs_mul, Int.natAbs_natCast] at this
    exact this
  have := Nat.le_mul_of_pos_right (fr1 a b).natAbs g
  omega
theorem fr2_bd {a b : Int} {k : Nat} (hb : 0 < b) (h : b.natAbs < 2 ^ k) : (fr2 a b).natAbs < 2 ^ k := by
  have e := (fr_eq (a := a) hb).2
  have g := gcd_pos (a := a) hb
  have : b.natAbs = (fr2 a b).natAbs * Nat.gcd a.natAbs b.natAbs := by
    have := congrArg Int.natAbs e
    rw [Int.natAbs_mul, Int.natAbs_natCast] at this
    exact this
  have := Nat.le_mul_of_pos_right (fr2 a b).natAbs g
  omega
def sp_frac : Sp := fun vs H Q _ => ∃ (a b : Int), vs = [.int a, .int b] ∧ 0 < b ∧ a.natAbs < 2 ^ 8000 ∧ b.natAbs < 2 ^ 8000 ∧ ∀ p H', H p = none → Same H H' → FrAt H' p a b → Q (.ref p) H'
theorem d_fraction (T : Txt K w mg Z) : Dfn P w K mg base 2 "fraction" ["numerator", "denominator"] (sp_frac) := by
  obtain ⟨f, fd, F, hm, hb⟩ := T.f_fraction
  refine ⟨f, fd, F.ok sc_fraction (fun vs H Q E h => by first | (obtain ⟨rfl, _⟩ := h; rfl) | (obtain ⟨_, rfl, _⟩ := h; rfl) | (obtain ⟨_, _, rfl, _⟩ := h; rfl) | (obtain ⟨_, _, _, rfl, _⟩ := h; rfl) | (obtain ⟨_, _, _, _, rfl, _⟩ := h; rfl) | (obtain ⟨_, _, _, _, _, rfl, _⟩ := h; rfl) | (obtain ⟨_, _, _, _, _, _, rfl, _⟩ := h; rfl) | (obtain ⟨_, _, _, _, _, _, _, rfl, _⟩ := h; rfl) | (obtain ⟨_, _, _, _, _, _, _, _, rfl, _⟩ := h; rfl) | (obtain ⟨_, _, _, _, _, _, _, _, _, rfl, _⟩ := h; rfl) | (obtain ⟨_, _, _, _, _, _, _, _, _, _, rfl, _⟩ := h; rfl) | (obtain ⟨_, _, _, _, _, _, _, _, _, _, _, rfl, _⟩ := h; rfl) | (obtain ⟨_, _, _, _, _, _, _, _, _, _, _, _, rfl, _⟩ := h; rfl) | (obtain ⟨_, _, _, _, _, _, _, _, _, _, _, _, _, rfl, _⟩ := h; rfl) | (obtain ⟨_, _, _, _, _, _, _, _, _, _, _, _, _, _, rfl, _⟩ := h; rfl) | (obtain ⟨_, _, _, _, _, _, _, _, _, _, _, _, _, _, _, rfl, _⟩ := h; rfl) | (obtain ⟨_, _, _, _, _, _, _, _, _, _, _, _, _, _, _, _, rfl, _⟩ := h; rfl)) (fun cdv A outer s H vs Q E hr h => ?_), hm, F.kp, hb⟩
  obtain ⟨a, b, rfl, b0, ab, bb, k⟩ := h
  have D_common := d_common (P := P) (base := base) T
  refine ⟨_, (pss_cons (ps_set (i := 2) sc_fraction.nd rfl (.inl rfl) (pe_dfn D_common (hr.mono (by decide)) (by rfl) (pa_cons (pv 0) (pa_cons (pv 1) pa_nil))))
      (pss_one (ps_ret (pe_tup (pa_cons (pe_op op_uDiv (pv 0) (pv 2)) (pa_cons (pe_op op_uDiv (pv 1) (pv 2)) pa_nil)))))), ?_⟩
  try dsimp only [cxOf, Cx.nox, Cx.wish]
  show (_ : TS) _ [some _, some _, none] _
  o_readsAll
  refine ⟨a, b, rfl, ab, bb, ?_⟩
  have g0 := gcd_pos (a := a) b0
  have gb := gcd_nb (a := a) b0 bb
  o_readsAll
  refine g_divW (by omega) gb (by decide) ?_
  o_readsAll
  refine g_divW (by omega) gb (by decide) ?_
  o_readsAll
  exact k _ _ (by assumption) (by assumption) (by assumption)
theorem d_law_e_fraction (T : Txt K w mg Z) : Dfn P w K mg base 2 "_law_e_fraction" ["top", "bottom"] (sp_frac) := by
  obtain ⟨f, fd, F, hm, hb⟩ := T.f_law_e_fraction
  refine ⟨f, fd, F.ok sc_law_e_fraction (fun vs H Q E h => by first | (obtain ⟨rfl, _⟩ := h; rfl) | (obtain ⟨_, rfl, _⟩ := h; rfl) | (obtain ⟨_, _, rfl, _⟩ := h; rfl) | (obtain ⟨_, _, _, rfl, _⟩ := h; rfl) | (obtain ⟨_, _, _, _, rfl, _⟩ := h; rfl) | (obtain ⟨_, _, _, _, _, rfl, _⟩ := h; rfl) | (obtain ⟨_, _, _, _, _, _, rfl, _⟩ := h; rfl) | (obtain ⟨_, _, _, _, _, _, _, rfl, _⟩ := h; rfl) | (obtain ⟨_, _, _, _, _, _, _, _, rfl, _⟩ := h; rfl) | (obtain ⟨_, _, _, _, _, _, _, _, _, rfl, _⟩ := h; rfl) | (obtain ⟨_, _, _, _, _, _, _, _, _, _, rfl, _⟩ := h; rfl) | (obtain ⟨_, _, _, _, _, _, _, _, _, _, _, rfl, _⟩ := h; rfl) | (obtain ⟨_, _, _, _, _, _, _, _, _, _, _, _, rfl, _⟩ := h; rfl) | (obtain ⟨_, _, _, _, _, _, _, _, _, _, _, _, _, rfl, _⟩ := h; rfl) | (obtain ⟨_, _, _, _, _, _, _, _, _, _, _, _, _, _, rfl, _⟩ := h; rfl) | (obtain ⟨_, _, _, _, _, _, _, _, _, _, _, _, _, _, _, rfl, _⟩ := h; rfl) | (obtain ⟨_, _, _, _, _, _, _, _, _, _, _, _, _, _, _, _, rfl, _⟩ := h; rfl)) (fun cdv A outer s H vs Q E hr h => ?_), hm, F.kp, hb⟩
  obtain ⟨a, b, rfl, b0, ab, bb, k⟩ := h
  have D_law_e_common := d_law_e_common (P := P) (base := base) T
  refine ⟨_, (pss_cons (ps_set (i := 2) sc_law_e_fraction.nd rfl (.inl rfl) (pe_dfn D_law_e_common (hr.mono (by decide)) (by rfl) (pa_cons (pe_callB call_uAbs (by rfl) T.b_abs bt_abs (pa_cons (pv 0) pa_nil)) (pa_cons (pv 1) pa_nil))))
      (pss_one (ps_ret (pe_tup (pa_cons (pe_op op_uDiv (pv 0) (pv 2)) (pa_cons (pe_op op_uDiv (pv 1) (pv 2)) pa_nil)))))), ?_⟩
  try dsimp only [cxOf, Cx.nox, Cx.wish]
  show (_ : TS) _ [some _, some _, none] _
  obtain ⟨bn, rfl⟩ : ∃ bn : Nat, b = bn := ⟨b.toNat, by omega⟩
  o_readsAll
  rw [show (if a < 0 then -a else a) = ((a.natAbs : Nat) : Int) by split <;> omega]
  rw [Int.natAbs_natCast] at bb
  refine ⟨_, _, rfl, ab, bb, ?_⟩
  have g0 := gcd_pos (a := a) b0
  have gb := gcd_nb (a := a) (k := 8000) b0 (by rw [Int.natAbs_natCast]; exact bb)
  rw [Int.natAbs_natCast] at g0 gb
  o_readsAll
  refine g_divW (by omega) gb (by decide) ?_
  o_readsAll
  refine g_divW (by omega) gb (by decide) ?_
  o_readsAll
  exact k _ _ (by assumption) (by assumption) (by assumption)
theorem c_frac {a b : Int} {H : Hp} {Q : VK} {E : XK} (b0 : 0 < b) (ab : a.natAbs < 2 ^ 8000) (bb : b.natAbs < 2 ^ 8000) (k : ∀ p H', H p = none → Same H H' → FrAt H' p a b → Q (.ref p) H') : sp_frac [.int a, .int b] H Q E := ⟨a, b, rfl, b0, ab, bb, k⟩
theorem nb_prod {x y : Int} {m n : Nat} (hx : x.natAbs < 2 ^ m) (hy : y.natAbs < 2 ^ n) : (x * y).natAbs < 2 ^ (m + n) := by
  rw [Int.natAbs_mul, Nat.pow_add]
  exact Nat.mul_lt_mul'' hx hy
theorem nb_diff {x y : Int} {m : Nat} (hx : x.natAbs < 2 ^ m) (hy : y.natAbs < 2 ^ m) : (x - y).natAbs < 2 ^ (m + 1) := by
  rw [Nat.pow_succ]
  omega
/-- a fraction times a whole number -/
def sp_times : Sp := fun vs H Q _ => ∃ (m a b : Int) (q : Addr), vs = [.int m, .ref q] ∧ H q = some (.tup [.int a, .int b]) ∧ 0 < b ∧ m.natAbs < 2 ^ 4000 ∧ a.natAbs < 2 ^ 4000 ∧ b.natAbs < 2 ^ 8000 ∧ ∀ p H', H p = none → Same H H' → FrAt H' p (m * a) b → Q (.ref p) H'
theorem d_times (T : Txt K w mg Z) : Dfn P w K mg base 3 "times" ["number", "one"] (sp_times) := by
  obtain ⟨f, fd, F, hm, hb⟩ := T.f_times
  refine ⟨f, fd, F.ok sc_times (fun vs H Q E h => by first | (obtain ⟨rfl, _⟩ := h; rfl) | (obtain ⟨_, rfl, _⟩ := h; rfl) | (obtain ⟨_, _, rfl, _⟩ := h; rfl) | (obtain ⟨_, _, _, rfl, _⟩ := h; rfl) | (obtain ⟨_, _, _, _, rfl, _⟩ := h; rfl) | (obtain ⟨_, _, _, _, _, rfl, _⟩ := h; rfl) | (obtain ⟨_, _, _, _, _, _, rfl, _⟩ := h; rfl) | (obtain ⟨_, _, _, _, _, _, _, rfl, _⟩ := h; rfl) | (obtain ⟨_, _, _, _, _, _, _, _, rfl, _⟩ := h; rfl) | (obtain ⟨_, _, _, _, _, _, _, _, _, rfl, _⟩ := h; rfl) | (obtain ⟨_, _, _, _, _, _, _, _, _, _, rfl, _⟩ := h; rfl) | (obtain ⟨_, _, _, _, _, _, _, _, _, _, _, rfl, _⟩ := h; rfl) | (obtain ⟨_, _, _, _, _, _, _, _, _, _, _, _, rfl, _⟩ := h; rfl) | (obtain ⟨_, _, _, _, _, _, _, _, _, _, _, _, _, rfl, _⟩ := h; rfl) | (obtain ⟨_, _, _, _, _, _, _, _, _, _, _, _, _, _, rfl, _⟩ := h; rfl) | (obtain ⟨_, _, _, _, _, _, _, _, _, _, _, _, _, _, _, rfl, _⟩ := h; rfl) | (obtain ⟨_, _, _, _, _, _, _, _, _, _, _, _, _, _, _, _, rfl, _⟩ := h; rfl)) (fun cdv A outer s H vs Q E hr h => ?_), hm, F.kp, hb⟩
  obtain ⟨m, a, b, q, rfl, hq, b0, mb, ab, bb, k⟩ := h
  have D_fraction := d_fraction (P := P) (base := base) T
  refine ⟨_, (pss_one (ps_ret (pe_dfn D_fraction (hr.mono (by decide)) (by rfl) (pa_cons (pe_op op_uMul (pv 0) (pe_ix ix_seq (pv 1) pe_int (fun _ _ => rfl))) (pa_cons (pe_ix ix_seq (pv 1) pe_int (fun _ _ => rfl)) pa_nil))))), ?_⟩
  try dsimp only [cxOf, Cx.nox, Cx.wish]
  show (_ : TS) _ [some _, some _] _
  o_readsAll
  refine g_mulW (mul_nb mb ab (by decide)) ?_
  o_readsAll
  exact c_frac b0 (nb_prod mb ab) bb k
def sp_taken : Sp := fun vs H Q _ => ∃ (a b c d : Int) (q r : Addr), vs = [.ref q, .ref r] ∧ H q = some (.tup [.int a, .int b]) ∧ H r = some (.tup [.int c, .int d]) ∧ 0 < b ∧ 0 < d ∧ a.natAbs < 2 ^ 3900 ∧ b.natAbs < 2 ^ 3900 ∧ c.natAbs < 2 ^ 3900 ∧ d.natAbs < 2 ^ 3900 ∧ ∀ p H', H p = none → Same H H' → FrAt H' p (a * d - c * b) (b * d) → Q (.ref p) H'
theorem d_taken (T : Txt K w mg Z) : Dfn P w K mg base 3 "taken" ["one", "other"] (sp_taken) := by
  obtain ⟨f, fd, F, hm, hb⟩ := T.f_taken
  refine ⟨f, fd, F.ok sc_taken (fun vs H Q E h => by first | (obtain ⟨rfl, _⟩ := h; rfl) | (obtain ⟨_, rfl, _⟩ := h; rfl) | (obtain ⟨_, _, rfl, _⟩ := h; rfl) | (obtain ⟨_, _, _, rfl, _⟩ := h; rfl) | (obtain ⟨_, _, _, _, rfl, _⟩ := h; rfl) | (obtain ⟨_, _, _, _, _, rfl, _⟩ := h; rfl) | (obtain ⟨_, _, _, _, _, _, rfl, _⟩ := h; rfl) | (obtain ⟨_, _, _, _, _, _, _, rfl, _⟩ := h; rfl) | (obtain ⟨_, _, _, _, _, _, _, _, rfl, _⟩ := h; rfl) | (obtain ⟨_, _, _, _, _, _, _, _, _, rfl, _⟩ := h; rfl) | (obtain ⟨_, _, _, _, _, _, _, _, _, _, rfl, _⟩ := h; rfl) | (obtain ⟨_, _, _, _, _, _, _, _, _, _, _, rfl, _⟩ := h; rfl) | (obtain ⟨_, _, _, _, _, _, _, _, _, _, _, _, rfl, _⟩ := h; rfl) | (obtain ⟨_, _, _, _, _, _, _, _, _, _, _, _, _, rfl, _⟩ := h; rfl) | (obtain ⟨_, _, _, _, _, _, _, _, _, _, _, _, _, _, rfl, _⟩ := h; rfl) | (obtain ⟨_, _, _, _, _, _, _, _, _, _, _, _, _, _, _, rfl, _⟩ := h; rfl) | (obtain ⟨_, _, _, _, _, _, _, _, _, _, _, _, _, _, _, _, rfl, _⟩ := h; rfl)) (fun cdv A outer s H vs Q E hr h => ?_), hm, F.kp, hb⟩
  obtain ⟨a, b, c, d, q, r, rfl, hq, hr1, b0, d0, ab, bb, cb, db, k⟩ := h
  have D_fraction := d_fraction (P := P) (base := base) T
  refine ⟨_, (pss_one (ps_ret (pe_dfn D_fraction (hr.mono (by decide)) (by rfl) (pa_cons (pe_op op_sub (pe_op op_uMul (pe_ix ix_seq (pv 0) pe_int (fun _ _ => rfl)) (pe_ix ix_seq (pv 1) pe_int (fun _ _ => rfl))) (pe_op op_uMul (pe_ix ix_seq (pv 1) pe_int (fun _ _ => rfl)) (pe_ix ix_seq (pv 0) pe_int (fun _ _ => rfl)))) (pa_cons (pe_op op_uMul (pe_ix ix_seq (pv 0) pe_int (fun _ _ => rfl)) (pe_ix ix_seq (pv 1) pe_int (fun _ _ => rfl))) pa_nil))))), ?_⟩
  try dsimp only [cxOf, Cx.nox, Cx.wish]
  show (_ : TS) _ [some _, some _] _
  o_readsAll
  refine g_mulW (mul_nb ab db (by decide)) ?_
  o_readsAll
  refine g_mulW (mul_nb cb bb (by decide)) ?_
  o_readsAll
  refine g_mulW (mul_nb bb db (by decide)) ?_
  o_readsAll
  exact c_frac (Int.mul_pos b0 d0) (Nat.lt_of_lt_of_le (nb_diff (nb_prod ab db) (nb_prod cb bb)) (Nat.pow_le_pow_right (by decide) (by decide))) (Nat.lt_of_lt_of_le (nb_prod bb db) (Nat.pow_le_pow_right (by decide) (by decide))) k
def sp_less : Sp := fun vs H Q _ => ∃ (a b c d : Int) (q r : Addr), vs = [.ref q, .ref r] ∧ H q = some (.tup [.int a, .int b]) ∧ H r = some (.tup [.int c, .int d]) ∧ a.natAbs < 2 ^ 4000 ∧ b.natAbs < 2 ^ 4000 ∧ c.natAbs < 2 ^ 4000 ∧ d.natAbs < 2 ^ 4000 ∧ Q (.bl (decide (a * d < c * b))) H
theorem d_less (T : Txt K w mg Z) : Dfn P w K mg base 1 "less" ["one", "other"] (sp_less) := by
  obtain ⟨f, fd, F, hm, hb⟩ := T.f_less
  refine ⟨f, fd, F.ok sc_less (fun vs H Q E h => by first | (obtain ⟨rfl, _⟩ := h; rfl) | (obtain ⟨_, rfl, _⟩ := h; rfl) | (obtain ⟨_, _, rfl, _⟩ := h; rfl) | (obtain ⟨_, _, _, rfl, _⟩ := h; rfl) | (obtain ⟨_, _, _, _, rfl, _⟩ := h; rfl) | (obtain ⟨_, _, _, _, _, rfl, _⟩ := h; rfl) | (obtain ⟨_, _, _, _, _, _, rfl, _⟩ := h; rfl) | (obtain ⟨_, _, _, _, _, _, _, rfl, _⟩ := h; rfl) | (obtain ⟨_, _, _, _, _, _, _, _, rfl, _⟩ := h; rfl) | (obtain ⟨_, _, _, _, _, _, _, _, _, rfl, _⟩ := h; rfl) | (obtain ⟨_, _, _, _, _, _, _, _, _, _, rfl, _⟩ := h; rfl) | (obtain ⟨_, _, _, _, _, _, _, _, _, _, _, rfl, _⟩ := h; rfl) | (obtain ⟨_, _, _, _, _, _, _, _, _, _, _, _, rfl, _⟩ := h; rfl) | (obtain ⟨_, _, _, _, _, _, _, _, _, _, _, _, _, rfl, _⟩ := h; rfl) | (obtain ⟨_, _, _, _, _, _, _, _, _, _, _, _, _, _, rfl, _⟩ := h; rfl) | (obtain ⟨_, _, _, _, _, _, _, _, _, _, _, _, _, _, _, rfl, _⟩ := h; rfl) | (obtain ⟨_, _, _, _, _, _, _, _, _, _, _, _, _, _, _, _, rfl, _⟩ := h; rfl)) (fun cdv A outer s H vs Q E hr h => ?_), hm, F.kp, hb⟩
  obtain ⟨a, b, c, d, q, r, rfl, hq, hr1, ab, bb, cb, db, k⟩ := h
  refine ⟨_, (pss_one (ps_ret (pe_cmpR op_lt (pe_op op_uMul (pe_ix ix_seq (pv 0) pe_int (fun _ _ => rfl)) (pe_ix ix_seq (pv 1) pe_int (fun _ _ => rfl))) (pe_op op_uMul (pe_ix ix_seq (pv 1) pe_int (fun _ _ => rfl)) (pe_ix ix_seq (pv 0) pe_int (fun _ _ => rfl))) (nomark _)))), ?_⟩
  try dsimp only [cxOf, Cx.nox, Cx.wish]
  show (_ : TS) _ [some _, some _] _
  o_readsAll
  refine g_mulW (mul_nb ab db (by decide)) ?_
  o_readsAll
  refine g_mulW (mul_nb cb bb (by decide)) ?_
  o_readsAll
theorem c_times {m a b : Int} {q : Addr} {H : Hp} {Q : VK} {E : XK} (hq : H q = some (.tup [.int a, .int b])) (b0 : 0 < b) (mb : m.natAbs < 2 ^ 4000) (ab : a.natAbs < 2 ^ 4000) (bb : b.natAbs < 2 ^ 8000) (k : ∀ p H', H p = none → Same H H' → FrAt H' p (m * a) b → Q (.ref p) H') : sp_times [.int m, .ref q] H Q E := ⟨m, a, b, q, rfl, hq, b0, mb, ab, bb, k⟩
theorem c_taken {a b c d : Int} {q r : Addr} {H : Hp} {Q : VK} {E : XK} (hq : H q = some (.tup [.int a, .int b])) (hr : H r = some (.tup [.int c, .int d])) (b0 : 0 < b) (d0 : 0 < d) (ab : a.natAbs < 2 ^ 3900) (bb : b.natAbs < 2 ^ 3900) (cb : c.natAbs < 2 ^ 3900) (db : d.natAbs < 2 ^ 3900) (k : ∀ p H', H p = none → Same H H' → FrAt H' p (a * d - c * b) (b * d) → Q (.ref p) H') : sp_taken [.ref q, .ref r] H Q E := ⟨a, b, c, d, q, r, rfl, hq, hr, b0, d0, ab, bb, cb, db, k⟩
theorem c_less {a b c d : Int} {q r : Addr} {H : Hp} {Q : VK} {E : XK} (hq : H q = some (.tup [.int a, .int b])) (hr : H r = some (.tup [.int c, .int d])) (ab : a.natAbs < 2 ^ 4000) (bb : b.natAbs < 2 ^ 4000) (cb : c.natAbs < 2 ^ 4000) (db : d.natAbs < 2 ^ 4000) (k : Q (.bl (decide (a * d < c * b))) H) : sp_less [.ref q, .ref r] H Q E := ⟨a, b, c, d, q, r, rfl, hq, hr, ab, bb, cb, db, k⟩
end
end L30

namespace L30
set_option exponentiation.threshold 9000
open SX Ld
section
variable {P : Program} {w : World} {K : PySem.W.Frag} {mg : Str → Option Value} {base : Heap} {Z : Ad}
theorem c_lnum {C l : Addr} {L : Int} {n : Nat} {fs : Nat → Int} {ret : Bool} {f : Int → Nat → Bool → V} {H : Hp} {Q : VK} {E : XK} (h : LadAt C H l L n fs ret) (k : Q (f L n ret) H) : sp_lnum C f [.ref l] H Q E := ⟨l, L, n, fs, ret, rfl, h, k⟩
theorem rng_ints (n : Nat) (f : Nat → Int) : rng n f = ((List.range n).map f).map V.int := by unfold rng; rw [List.map_map]; rfl
theorem sum_rng (f : Nat → Int) : ∀ n, ((List.range n).map f).sum = sm f n
  | 0 => rfl
  | n + 1 => by rw [List.range_succ, List.map_append, List.sum_append, sum_rng f n, sm]; simp
theorem g_sumI {p : Addr} {n : Nat} {f : Nat → Int} {H : Hp} {Q : VK} (h : IL H p n f) (k : Q (.int (sm f n)) H) : rSum K [.ref p] H Q := g_sum (ns := (List.range n).map f) (by rw [← rng_ints]; exact h.sq) (by rw [sum_rng]; exact k)
def badC (f : Nat → Int) (i : Nat) : Prop := f i < 0
instance (f : Nat → Int) : DecidablePred (badC f) := fun i => by unfold badC; infer_instance
def bw : Option Int → V
  | none => .non
  | some r => .int r
def wrc (n m : Nat) (f : Nat → Int) : Option Int := if n ≠ m then some (-1) else Option.map (fun (i : Nat) => (i : Int)) (fb (badC f) n)
def sp_wcount : Sp := fun vs H Q _ => ∃ (c : Addr) (n m : Nat) (cs : Nat → Int), vs = [.ref c, .int (m : Int)] ∧ IL H c n cs ∧ n ≤ 41 ∧ ∀ H', Same H H' → Q (bw (wrc n m cs)) H'
theorem d_wrong_count (T : Txt K w mg Z) : Dfn P w K mg base 1 "wrong_count" ["counts", "rungs"] (sp_wcount) := by
  obtain ⟨f, fd, F, hm, hb⟩ := T.f_wrong_count
  refine ⟨f, fd, F.ok sc_wrong_count (fun vs H Q E h => by first | (obtain ⟨rfl, _⟩ := h; rfl) | (obtain ⟨_, rfl, _⟩ := h; rfl) | (obtain ⟨_, _, rfl, _⟩ := h; rfl) | (obtain ⟨_, _, _, rfl, _⟩ := h; rfl) | (obtain ⟨_, _, _, _, rfl, _⟩ := h; rfl) | (obtain ⟨_, _, _, _, _, rfl, _⟩ := h; rfl) | (obtain ⟨_, _, _, _, _, _, rfl, _⟩ := h; rfl) | (obtain ⟨_, _, _, _, _, _, _, rfl, _⟩ := h; rfl) | (obtain ⟨_, _, _, _, _, _, _, _, rfl, _⟩ := h; rfl) | (obtain ⟨_, _, _, _, _, _, _, _, _, rfl, _⟩ := h; rfl) | (obtain ⟨_, _, _, _, _, _, _, _, _, _, rfl, _⟩ := h; rfl) | (obtain ⟨_, _, _, _, _, _, _, _, _, _, _, rfl, _⟩ := h; rfl) | (obtain ⟨_, _, _, _, _, _, _, _, _, _, _, _, rfl, _⟩ := h; rfl) | (obtain ⟨_, _, _, _, _, _, _, _, _, _, _, _, _, rfl, _⟩ := h; rfl) | (obtain ⟨_, _, _, _, _, _, _, _, _, _, _, _, _, _, rfl, _⟩ := h; rfl) | (obtain ⟨_, _, _, _, _, _, _, _, _, _, _, _, _, _, _, rfl, _⟩ := h; rfl) | (obtain ⟨_, _, _, _, _, _, _, _, _, _, _, _, _, _, _, _, rfl, _⟩ := h; rfl)) (fun cdv A outer s H vs Q E hr h => ?_), hm, F.kp, hb⟩
  obtain ⟨c, n, m, cs, rfl, hc, hn, k⟩ := h
  unfold IL at hc
  refine ⟨_, (pss_cons (ps_if (pt_cmpR (op_uNe hr.units) (pe_callB call_uLen (by rfl) T.b_len bt_len (pa_cons (pv 0) pa_nil)) (pv 1) (nomark _)) (pss_one (ps_ret (pe_un un_neg pe_int))) pss_nil)
      (pss_cons (ps_for PassesOwn.never rfl (pi_enum (by rfl) T.b_enumerate (pa_cons (pv 0) pa_nil)) (pg_tup (by rfl) (pgs_cons (pg_name (i := 2) sc_wrong_count.nd rfl (.inl rfl)) (pgs_cons (pg_name (i := 3) sc_wrong_count.nd rfl (.inl rfl)) pgs_nil)))
        (pss_one (ps_if (pt_cmpR op_lt (pv 3) pe_int (nomark _)) (pss_one (ps_ret (pv 2))) pss_nil)))
      (pss_one (ps_ret pe_non)))), ?_⟩
  try dsimp only [cxOf, Cx.nox, Cx.wish]
  show (_ : TS) _ [some _, some _, none, none] _
  o_readsAll
  rw [rng_len]
  refine brn (fun h => ?_) (fun h => ?_)
  · o_readsAll
    rw [wrc, if_pos (by omega)] at k
    exact k _ (Same.refl _)
  · rw [wrc, if_neg (by omega)] at k
    o_readsAll
    refine f_enum (xs := rng n cs) (fun i σ' H' => ∃ a b, σ' = [some (.ref c), some (.int (m : Int)), a, b] ∧ Same H H' ∧ ∀ j, j < i → ¬ badC cs j) ⟨_, _, rfl, Same.refl _, fun j hj => by omega⟩ ?_ ?_ ?_
    · rintro i σ' H2 hi ⟨a, b, rfl, e2, _⟩
      exact .of (e2 _ _ hc)
    · rintro i y σ' H2 T1 H3 hy ⟨a, b, rfl, e2, hp⟩ hT e3 h3
      have hi : i < n := by have := (List.getElem?_eq_some_iff.mp hy).1; rw [rng_len] at this; exact this
      rw [rng_at hi] at hy
      cases hy
      o_readsAll
      refine br (fun hb => ?_) (fun hb => ?_)
      · o_readsAll
        rw [fb_at (show badC cs i from hb) hp hi] at k
        exact k _ (e2.trans e3)
      · o_readsAll
        exact ⟨_, _, rfl, e2.trans e3, fun j hj => by
          by_cases e : j = i
          · rw [e]; exact hb
          · exact hp j (by omega)⟩
    · rintro σ' H2 ⟨a, b, rfl, e2, hp⟩
      rw [rng_len] at hp
      rw [fb_none hp] at k
      o_readsAll
      exact k _ e2
theorem c_wcount {c : Addr} {n m : Nat} {cs : Nat → Int} {H : Hp} {Q : VK} {E : XK} (hc : IL H c n cs) (hn : n ≤ 41) (k : ∀ H', Same H H' → Q (bw (wrc n m cs)) H') : sp_wcount [.ref c, .int (m : Int)] H Q E := ⟨c, n, m, cs, rfl, hc, hn, k⟩
theorem wrc_ok {n m : Nat} {f : Nat → Int} (h : wrc n m f = none) : n = m ∧ ∀ i, i < n → 0 ≤ f i := by
  unfold wrc at h
  split at h
  · cases h
  · rename_i e
    refine ⟨Decidable.byContradiction e, fun i hi => ?_⟩
    rcases fb_cases (p := badC f) n with ⟨_, hb⟩ | ⟨i, e, _⟩
    · exact Int.not_lt.mp (hb i hi)
    · rw [e] at h; cases h
theorem ok_wrc {n : Nat} {f : Nat → Int} (h : ∀ i, i < n → 0 ≤ f i) : wrc n n f = none := by
  unfold wrc
  rw [if_neg (fun z => z rfl), fb_none (p := badC f) fun i hi z => absurd (h i hi) (Int.not_le.mpr z)]
  rfl
/-- the lesser of two that may be missing -/
def omin : Option Int → Option Int → Option Int
  | none, o => o
  | some a, none => some a
  | some a, some b => some (min a b)
theorem g_truL {p : Addr} {xs : List V} {H : Hp} {Q : Bool → Hp → Prop} (h : H p = some (.lst xs)) (k : Q (!xs.isEmpty) H) : gTru K (.ref p) H Q := ⟨_, .inl ⟨xs, .of h, rfl⟩, k⟩
theorem omin_none {o1 o2 : Option Int} (h : [o1, o2].filterMap id = []) : omin o1 o2 = none := by
  cases o1 <;> cases o2 <;> simp [omin] at h ⊢
theorem omin_some {o1 o2 : Option Int} {m : Int} (h1 : m ∈ [o1, o2].filterMap id) (h2 : ∀ y, y ∈ [o1, o2].filterMap id → m ≤ y) : omin o1 o2 = some m := by
  cases o1 <;> cases o2 <;> simp [omin] at h1 h2 ⊢ <;> omega
def PzAt (C CL : Addr) (H : Hp) (p : Addr) (L : Int) (n : Nat) (fs : Nat → Int) (ret : Bool) (ws ls : Nat → Int) : Prop := ∃ dx l wl ll, H p = some (.ins C dx [("ladder_kept", .ref l), ("win_list", .ref wl), ("lose_list", .ref ll)]) ∧ IL H wl n ws ∧ IL H ll n ls ∧ LadAt CL H l L n fs ret
theorem PzAt.same {C CL : Addr} {H H' : Hp} {p : Addr} {L : Int} {n : Nat} {fs : Nat → Int} {ret : Bool} {ws ls : Nat → Int} (h : PzAt C CL H p L n fs ret ws ls) (e : Same H H') : PzAt C CL H' p L n fs ret ws ls := by
  obtain ⟨dx, l, wl, ll, a, b, c, d⟩ := h
  exact ⟨dx, l, wl, ll, e _ _ a, b.same e, c.same e, d.same e⟩
theorem PzAt.ext {C CL : Addr} {H H' : Hp} {p : Addr} {L : Int} {n : Nat} {fs : Nat → Int} {ret : Bool} {ws ls : Nat → Int} (h : PzAt C CL H p L n fs ret ws ls) (e : LamX.ExtN H H') : PzAt C CL H' p L n fs ret ws ls := by
  obtain ⟨dx, l, wl, ll, a, b, c, d⟩ := h
  exact ⟨dx, l, wl, ll, e _ _ a (fun _ z => nomatch z), e _ _ b (fun _ z => nomatch z), e _ _ c (fun _ z => nomatch z), d.ext e⟩
def sp_pinit (C CL CB : Addr) : Sp := fun vs H Q E => ∃ (x dx l a b : Addr) (L : Int) (n m1 m2 : Nat) (fs : Nat → Int) (ret : Bool) (ws ls : Nat → Int), vs = [.ref x, .ref l, .ref a, .ref b] ∧ H x = some (.ins C dx []) ∧ LadAt CL H l L n fs ret ∧ IL H a m1 ws ∧ IL H b m2 ls ∧ m1 ≤ 41 ∧ m2 ≤ 41 ∧ x ≠ l ∧ x ≠ a ∧ x ≠ b ∧ (omin (wrc m1 n ws) (wrc m2 n ls) = none → ∀ H' wl ll, H wl = none → H ll = none → Off x H H' → H' x = some (.ins C dx [("ladder_kept", .ref l), ("win_list", .ref wl), ("lose_list", .ref ll)]) → IL H' wl m1 ws → IL H' ll m2 ls → Q .non H') ∧ (∀ r, omin (wrc m1 n ws) (wrc m2 n ls) = some r → RaiseI CB "rung" (.int r) H E)
theorem d_Prizes_init (T : Txt K w mg Z) : IniX P w K mg base 3 "Prizes" Z.a_Prizes ["self", "ladder", "win", "lose"] (sp_pinit Z.a_Prizes Z.a_Ladder Z.a_BadTable) := by
  obtain ⟨f, fd, F, hM, hm, hb⟩ := T.f_Prizes_init
  refine ⟨f, fd, F.okX sc_Prizes_init (fun vs H Q E h => by first | (obtain ⟨rfl, _⟩ := h; rfl) | (obtain ⟨_, rfl, _⟩ := h; rfl) | (obtain ⟨_, _, rfl, _⟩ := h; rfl) | (obtain ⟨_, _, _, rfl, _⟩ := h; rfl) | (obtain ⟨_, _, _, _, rfl, _⟩ := h; rfl) | (obtain ⟨_, _, _, _, _, rfl, _⟩ := h; rfl) | (obtain ⟨_, _, _, _, _, _, rfl, _⟩ := h; rfl) | (obtain ⟨_, _, _, _, _, _, _, rfl, _⟩ := h; rfl) | (obtain ⟨_, _, _, _, _, _, _, _, rfl, _⟩ := h; rfl) | (obtain ⟨_, _, _, _, _, _, _, _, _, rfl, _⟩ := h; rfl) | (obtain ⟨_, _, _, _, _, _, _, _, _, _, rfl, _⟩ := h; rfl) | (obtain ⟨_, _, _, _, _, _, _, _, _, _, _, rfl, _⟩ := h; rfl) | (obtain ⟨_, _, _, _, _, _, _, _, _, _, _, _, rfl, _⟩ := h; rfl) | (obtain ⟨_, _, _, _, _, _, _, _, _, _, _, _, _, rfl, _⟩ := h; rfl) | (obtain ⟨_, _, _, _, _, _, _, _, _, _, _, _, _, _, rfl, _⟩ := h; rfl) | (obtain ⟨_, _, _, _, _, _, _, _, _, _, _, _, _, _, _, rfl, _⟩ := h; rfl) | (obtain ⟨_, _, _, _, _, _, _, _, _, _, _, _, _, _, _, _, rfl, _⟩ := h; rfl)) (fun cdv A outer s H vs Q E hr h => ?_), hM, hm, hb⟩
  obtain ⟨x, dx, l, a, b, L, n, m1, m2, fs, ret, ws, ls, rfl, hx, hl, ha, hb, hm1, hm2, nl, na, nb, k1, k2⟩ := h
  have hl' := hl
  obtain ⟨ldx, fl, lt, hh, wl, ps, a1, a2, a3, a4, a5, a6, a7⟩ := hl'
  have D_wrong_count := d_wrong_count (P := P) (base := base) T
  have D_BadTable_init := d_BadTable_init (P := P) (base := base) T
  have D_Ladder_rungs := d_Ladder_rungs (P := P) (base := base) T
  have l_Prizes := T.l_Prizes
  have n_Prizes_ladder_kept := T.n_Prizes_ladder_kept
  have n_Prizes_win_list := T.n_Prizes_win_list
  have n_Prizes_lose_list := T.n_Prizes_lose_list
  refine ⟨_, (pss_cons (ps_setLc (i := 4) (own := [("row", 6)]) (by rfl) sc_Prizes_init.nd rfl rfl (sw_true rfl rfl rfl (by decide +kernel)) (pi_list (pe_lst (pa_cons (pv 2) (pa_cons (pv 3) pa_nil)))) (blkOk_by (N := n_Prizes_init) (sc := defScope st_Prizes_init) (by decide +kernel)) (fun _ _ _ _ _ => (pg_name (i := 6) sc_Prizes_init.nd rfl (.inl rfl))) (fun _ _ _ _ _ => pts_nil) (fun _ _ _ _ _ => (pe_dfn D_wrong_count (hr.mono (by decide)) (by rfl) (pa_cons (pv 6) (pa_cons (pe_mth0 D_Ladder_rungs (hr.mono (by decide)) (pv 1)) pa_nil)))))
      (pss_cons (ps_setLc (i := 5) (own := [("rung", 7)]) (by rfl) sc_Prizes_init.nd rfl rfl (sw_true rfl rfl rfl (by decide +kernel)) (pi_list (pv 4)) (blkOk_by (N := n_Prizes_init) (sc := defScope st_Prizes_init) (by decide +kernel)) (fun _ _ _ _ _ => (pg_name (i := 7) sc_Prizes_init.nd rfl (.inl rfl))) (fun _ _ _ _ _ => (pts_one (pt_cmpR op_uNotN (pv 7) pe_non (nomark _)))) (fun _ _ _ _ _ => (pv 7)))
      (pss_cons (ps_if (pt_u (pv 5)) (pss_one (ps_rs (takes_of rfl rfl rfl rfl) (pmk_iex D_BadTable_init (hr.mono (by decide)) (by rfl) (pa_cons (pe_callB (cr_min rfl) (by rfl) T.b_min bt_min (pa_cons (pv 5) pa_nil)) pa_nil)) rfl)) pss_nil)
      (pss_cons (ps_fld (pv 0) (pv 1) rfl)
      (pss_cons (ps_fld (pv 0) (pe_callTy call_uList (by rfl) T.b_list bt_list (pa_cons (pv 2) pa_nil)) rfl)
      (pss_one (ps_fld (pv 0) (pe_callTy call_uList (by rfl) T.b_list bt_list (pa_cons (pv 3) pa_nil)) rfl))))))), ?_⟩
  try dsimp only [cxOf, Cx.nox, Cx.wish]
  show (_ : TS) _ [some _, some _, some _, some _, none, none, none, none] _
  o_readsAll
  rename_i rl H1 frl e1 hrl
  have a11 := e1 _ _ a1
  refine l_lstP (fun i => bw (if i = 0 then wrc m1 n ws else wrc m2 n ls)) (.of hrl) (fun x => rfl) (fun D i x' H' hx' hD e hl'' => ?_) fun q H2 fq e2 hq => ?_
  · have a1e := e _ _ a11
    have hle := (hl.same e1).same e
    match i with
    | 0 =>
      cases hx'
      o_readsAll
      refine c_lnum hle ?_
      o_readsAll
      refine c_wcount ((ha.same e1).same e) hm1 fun H3 e3 => ?_
      exact g_itemP (e.trans e3) (e3 _ _ hl'') hD (by decide) rfl
    | 1 =>
      cases hx'
      o_readsAll
      refine c_lnum hle ?_
      o_readsAll
      refine c_wcount ((hb.same e1).same e) hm2 fun H3 e3 => ?_
      exact g_itemP (e.trans e3) (e3 _ _ hl'') hD (by decide) rfl
    | i + 2 => cases hx'
  · have hq' : H2 q = some (.lst [bw (wrc m1 n ws), bw (wrc m2 n ls)]) := hq
    clear hq
    have e02 := e1.trans e2
    have hx2 := e02 _ _ hx
    generalize wrc m1 n ws = o1 at *
    generalize wrc m2 n ls = o2 at *
    o_readsAll
    refine l_itF (walk_list (xs := [bw o1, bw o2])) (fun D i acc H' => acc = (([o1, o2].take i).filterMap id).map V.int ∧ Same H2 H') (fun D hD => ⟨rfl, Eg.Same.put (Same.refl _) hD⟩) (fun D i acc H' hD hi h p => .of (p.2 _ _ hq')) (fun D i x' acc H3 H' hD hi e p y => ?_) (fun D acc H' hD e p => ?_)
    · obtain ⟨y1, y2⟩ := y
      obtain ⟨rfl, e3⟩ := p
      subst y1
      match i with
      | 0 =>
        cases y2
        cases o1 with
        | none =>
          show gName 7 .non _ _ _
          refine ⟨rfl, ?_⟩
          o_readsAll
          exact ⟨_, e, rfl, e3⟩
        | some r =>
          show gName 7 (.int r) _ _ _
          refine ⟨rfl, ?_⟩
          o_readsAll
          exact ⟨_, e, by rw [sizeLine_eq]; simp, rfl, Eg.Same.put e3 hD⟩
      | 1 =>
        cases y2
        cases o2 with
        | none =>
          show gName 7 .non _ _ _
          refine ⟨rfl, ?_⟩
          o_readsAll
          refine ⟨_, e, ?_, e3⟩
          cases o1 <;> rfl
        | some r =>
          show gName 7 (.int r) _ _ _
          refine ⟨rfl, ?_⟩
          o_readsAll
          refine ⟨_, e, ?_, ?_, Eg.Same.put e3 hD⟩
          · cases o1 <;> (rw [sizeLine_eq]; simp)
          · cases o1 <;> rfl
      | i + 2 => cases y2
    · obtain ⟨rfl, e3⟩ := p
      have e' : H' D = some (.lst (([o1, o2].filterMap id).map V.int)) := e
      clear e
      have hx3 := e3 _ _ hx2
      have e03 := e02.trans e3
      have ha3 := e03 _ _ (show H a = some (.lst (rng m1 ws)) from ha)
      have hb3 := e03 _ _ (show H b = some (.lst (rng m2 ls)) from hb)
      o_readsAll
      refine g_truL e' ?_
      by_cases h0 : [o1, o2].filterMap id = []
      · rw [h0]
        have hn := omin_none h0
        refine brF rfl ?_
        o_readsAll
        rename_i wl H4 fwl e4 hwl ll H5 fll e5 hll
        have nwl : x ≠ wl := ne_of_none upd_same fwl
        have nll : x ≠ ll := ne_of_none upd_same fll
        have fw : H wl = none := e03.free (upd_none fwl)
        have nwll : wl ≠ ll := ne_of_none (show upd H4 x _ wl = some _ by rw [upd_ne nwl.symm]; exact hwl) fll
        refine k1 hn _ wl ll fw ?_ ((((((off_of e03).upd).same e4).upd).same e5).upd) upd_same ?_ ?_
        · exact e03.free (upd_none (e4.free (upd_none fll)))
        · unfold IL
          rw [upd_ne nwl.symm]
          exact e5 _ _ (by rw [upd_ne nwl.symm]; exact hwl)
        · unfold IL
          rw [upd_ne nll.symm]
          exact hll
      · have h1 : (!(([o1, o2].filterMap id).map V.int).isEmpty) = true := by
          cases hh : [o1, o2].filterMap id with
          | nil => exact absurd hh h0
          | cons _ _ => rfl
        rw [h1]
        o_readsAll
        refine g_minI (.of e') (List.length_pos_iff.mpr h0) fun m hm1 hm2 => ?_
        have hs := omin_some hm1 hm2
        o_readsAll
        refine c_raise fun d H4 fd e4 hd => ?_
        exact k2 m hs d H4 (e03.free fd) (e03.trans e4) hd
def sp_pwin (C CL : Addr) (f : (Nat → Int) → (Nat → Int) → Nat → Int) : Sp := fun vs H Q _ => ∃ (p : Addr) (L : Int) (n : Nat) (fs : Nat → Int) (ret : Bool) (ws ls : Nat → Int), vs = [.ref p] ∧ PzAt C CL H p L n fs ret ws ls ∧ ∀ q H', H q = none → Same H H' → IL H' q n (f ws ls) → Q (.ref q) H'
theorem d_Prizes_win (T : Txt K w mg Z) : Mth P w K mg base 1 Z.a_Prizes "win" ["self"] (sp_pwin Z.a_Prizes Z.a_Ladder fun ws _ => ws) := by
  obtain ⟨f, fd, F, hm, hb⟩ := T.f_Prizes_win
  refine ⟨⟨f, fd, F.ok sc_Prizes_win (fun vs H Q E h => by first | (obtain ⟨rfl, _⟩ := h; rfl) | (obtain ⟨_, rfl, _⟩ := h; rfl) | (obtain ⟨_, _, rfl, _⟩ := h; rfl) | (obtain ⟨_, _, _, rfl, _⟩ := h; rfl) | (obtain ⟨_, _, _, _, rfl, _⟩ := h; rfl) | (obtain ⟨_, _, _, _, _, rfl, _⟩ := h; rfl) | (obtain ⟨_, _, _, _, _, _, rfl, _⟩ := h; rfl) | (obtain ⟨_, _, _, _, _, _, _, rfl, _⟩ := h; rfl) | (obtain ⟨_, _, _, _, _, _, _, _, rfl, _⟩ := h; rfl) | (obtain ⟨_, _, _, _, _, _, _, _, _, rfl, _⟩ := h; rfl) | (obtain ⟨_, _, _, _, _, _, _, _, _, _, rfl, _⟩ := h; rfl) | (obtain ⟨_, _, _, _, _, _, _, _, _, _, _, rfl, _⟩ := h; rfl) | (obtain ⟨_, _, _, _, _, _, _, _, _, _, _, _, rfl, _⟩ := h; rfl) | (obtain ⟨_, _, _, _, _, _, _, _, _, _, _, _, _, rfl, _⟩ := h; rfl) | (obtain ⟨_, _, _, _, _, _, _, _, _, _, _, _, _, _, rfl, _⟩ := h; rfl) | (obtain ⟨_, _, _, _, _, _, _, _, _, _, _, _, _, _, _, rfl, _⟩ := h; rfl) | (obtain ⟨_, _, _, _, _, _, _, _, _, _, _, _, _, _, _, _, rfl, _⟩ := h; rfl)) (fun cdv A outer s H vs Q E hr h => ?_), hm, hb⟩, T.l_Prizes⟩
  obtain ⟨p, L, n, fs, ret, ws, ls, rfl, ⟨dx, l, wl, ll, h1, h2, h3, h4⟩, k⟩ := h
  unfold IL at h2 h3
  have l_Prizes := T.l_Prizes
  have n_Prizes_win_list := T.n_Prizes_win_list
  refine ⟨_, (pss_one (ps_ret (pe_callTy call_uList (by rfl) T.b_list bt_list (pa_cons (pe_fld (pv 0) rfl) pa_nil)))), ?_⟩
  try dsimp only [cxOf, Cx.nox, Cx.wish]
  show (_ : TS) _ [some _] _
  o_readsAll
  exact k _ _ (by assumption) (by assumption) (by assumption)
theorem d_Prizes_lose (T : Txt K w mg Z) : Mth P w K mg base 1 Z.a_Prizes "lose" ["self"] (sp_pwin Z.a_Prizes Z.a_Ladder fun _ ls => ls) := by
  obtain ⟨f, fd, F, hm, hb⟩ := T.f_Prizes_lose
  refine ⟨⟨f, fd, F.ok sc_Prizes_lose (fun vs H Q E h => by first | (obtain ⟨rfl, _⟩ := h; rfl) | (obtain ⟨_, rfl, _⟩ := h; rfl) | (obtain ⟨_, _, rfl, _⟩ := h; rfl) | (obtain ⟨_, _, _, rfl, _⟩ := h; rfl) | (obtain ⟨_, _, _, _, rfl, _⟩ := h; rfl) | (obtain ⟨_, _, _, _, _, rfl, _⟩ := h; rfl) | (obtain ⟨_, _, _, _, _, _, rfl, _⟩ := h; rfl) | (obtain ⟨_, _, _, _, _, _, _, rfl, _⟩ := h; rfl) | (obtain ⟨_, _, _, _, _, _, _, _, rfl, _⟩ := h; rfl) | (obtain ⟨_, _, _, _, _, _, _, _, _, rfl, _⟩ := h; rfl) | (obtain ⟨_, _, _, _, _, _, _, _, _, _, rfl, _⟩ := h; rfl) | (obtain ⟨_, _, _, _, _, _, _, _, _, _, _, rfl, _⟩ := h; rfl) | (obtain ⟨_, _, _, _, _, _, _, _, _, _, _, _, rfl, _⟩ := h; rfl) | (obtain ⟨_, _, _, _, _, _, _, _, _, _, _, _, _, rfl, _⟩ := h; rfl) | (obtain ⟨_, _, _, _, _, _, _, _, _, _, _, _, _, _, rfl, _⟩ := h; rfl) | (obtain ⟨_, _, _, _, _, _, _, _, _, _, _, _, _, _, _, rfl, _⟩ := h; rfl) | (obtain ⟨_, _, _, _, _, _, _, _, _, _, _, _, _, _, _, _, rfl, _⟩ := h; rfl)) (fun cdv A outer s H vs Q E hr h => ?_), hm, hb⟩, T.l_Prizes⟩
  obtain ⟨p, L, n, fs, ret, ws, ls, rfl, ⟨dx, l, wl, ll, h1, h2, h3, h4⟩, k⟩ := h
  unfold IL at h2 h3
  have l_Prizes := T.l_Prizes
  have n_Prizes_lose_list := T.n_Prizes_lose_list
  refine ⟨_, (pss_one (ps_ret (pe_callTy call_uList (by rfl) T.b_list bt_list (pa_cons (pe_fld (pv 0) rfl) pa_nil)))), ?_⟩
  try dsimp only [cxOf, Cx.nox, Cx.wish]
  show (_ : TS) _ [some _] _
  o_readsAll
  exact k _ _ (by assumption) (by assumption) (by assumption)
def sp_plad (C CL : Addr) : Sp := fun vs H Q _ => ∃ (p : Addr) (L : Int) (n : Nat) (fs : Nat → Int) (ret : Bool) (ws ls : Nat → Int), vs = [.ref p] ∧ PzAt C CL H p L n fs ret ws ls ∧ ∀ l, LadAt CL H l L n fs ret → Q (.ref l) H
theorem d_Prizes_ladder (T : Txt K w mg Z) : Mth P w K mg base 1 Z.a_Prizes "ladder" ["self"] (sp_plad Z.a_Prizes Z.a_Ladder) := by
  obtain ⟨f, fd, F, hm, hb⟩ := T.f_Prizes_ladder
  refine ⟨⟨f, fd, F.ok sc_Prizes_ladder (fun vs H Q E h => by first | (obtain ⟨rfl, _⟩ := h; rfl) | (obtain ⟨_, rfl, _⟩ := h; rfl) | (obtain ⟨_, _, rfl, _⟩ := h; rfl) | (obtain ⟨_, _, _, rfl, _⟩ := h; rfl) | (obtain ⟨_, _, _, _, rfl, _⟩ := h; rfl) | (obtain ⟨_, _, _, _, _, rfl, _⟩ := h; rfl) | (obtain ⟨_, _, _, _, _, _, rfl, _⟩ := h; rfl) | (obtain ⟨_, _, _, _, _, _, _, rfl, _⟩ := h; rfl) | (obtain ⟨_, _, _, _, _, _, _, _, rfl, _⟩ := h; rfl) | (obtain ⟨_, _, _, _, _, _, _, _, _, rfl, _⟩ := h; rfl) | (obtain ⟨_, _, _, _, _, _, _, _, _, _, rfl, _⟩ := h; rfl) | (obtain ⟨_, _, _, _, _, _, _, _, _, _, _, rfl, _⟩ := h; rfl) | (obtain ⟨_, _, _, _, _, _, _, _, _, _, _, _, rfl, _⟩ := h; rfl) | (obtain ⟨_, _, _, _, _, _, _, _, _, _, _, _, _, rfl, _⟩ := h; rfl) | (obtain ⟨_, _, _, _, _, _, _, _, _, _, _, _, _, _, rfl, _⟩ := h; rfl) | (obtain ⟨_, _, _, _, _, _, _, _, _, _, _, _, _, _, _, rfl, _⟩ := h; rfl) | (obtain ⟨_, _, _, _, _, _, _, _, _, _, _, _, _, _, _, _, rfl, _⟩ := h; rfl)) (fun cdv A outer s H vs Q E hr h => ?_), hm, hb⟩, T.l_Prizes⟩
  obtain ⟨p, L, n, fs, ret, ws, ls, rfl, ⟨dx, l, wl, ll, h1, h2, h3, h4⟩, k⟩ := h
  have l_Prizes := T.l_Prizes
  have n_Prizes_ladder_kept := T.n_Prizes_ladder_kept
  refine ⟨_, (pss_one (ps_ret (pe_fld (pv 0) rfl))), ?_⟩
  try dsimp only [cxOf, Cx.nox, Cx.wish]
  show (_ : TS) _ [some _] _
  o_readsAll
  exact k _ h4
/-- what a meeting pays -/
def pay (L : Int) (ws ls : Nat → Int) (a : Nat) : Int := ws a + (L - 1) * ls a
def sp_ppm (C CL CB : Addr) : Sp := fun vs H Q E => ∃ (p : Addr) (a L : Int) (n : Nat) (fs : Nat → Int) (ret : Bool) (ws ls : Nat → Int), vs = [.ref p, .int a] ∧ PzAt C CL H p L n fs ret ws ls ∧ L.natAbs ≤ 6 ∧ (∀ i, i < n → (ls i).natAbs < 2 ^ 1000) ∧ (∀ a' : Nat, a = a' → a' < n → Q (.int (pay L ws ls a')) H) ∧ (¬ (0 ≤ a ∧ a < n) → RaiseI CB "rung" (.int a) H E)
theorem d_Prizes_per_meeting (T : Txt K w mg Z) : MthX P w K mg base 4 Z.a_Prizes "per_meeting" ["self", "a"] (sp_ppm Z.a_Prizes Z.a_Ladder Z.a_BadLadder) := by
  obtain ⟨f, fd, F, hm, hb⟩ := T.f_Prizes_per_meeting
  refine ⟨⟨f, fd, F.okX sc_Prizes_per_meeting (fun vs H Q E h => by first | (obtain ⟨rfl, _⟩ := h; rfl) | (obtain ⟨_, rfl, _⟩ := h; rfl) | (obtain ⟨_, _, rfl, _⟩ := h; rfl) | (obtain ⟨_, _, _, rfl, _⟩ := h; rfl) | (obtain ⟨_, _, _, _, rfl, _⟩ := h; rfl) | (obtain ⟨_, _, _, _, _, rfl, _⟩ := h; rfl) | (obtain ⟨_, _, _, _, _, _, rfl, _⟩ := h; rfl) | (obtain ⟨_, _, _, _, _, _, _, rfl, _⟩ := h; rfl) | (obtain ⟨_, _, _, _, _, _, _, _, rfl, _⟩ := h; rfl) | (obtain ⟨_, _, _, _, _, _, _, _, _, rfl, _⟩ := h; rfl) | (obtain ⟨_, _, _, _, _, _, _, _, _, _, rfl, _⟩ := h; rfl) | (obtain ⟨_, _, _, _, _, _, _, _, _, _, _, rfl, _⟩ := h; rfl) | (obtain ⟨_, _, _, _, _, _, _, _, _, _, _, _, rfl, _⟩ := h; rfl) | (obtain ⟨_, _, _, _, _, _, _, _, _, _, _, _, _, rfl, _⟩ := h; rfl) | (obtain ⟨_, _, _, _, _, _, _, _, _, _, _, _, _, _, rfl, _⟩ := h; rfl) | (obtain ⟨_, _, _, _, _, _, _, _, _, _, _, _, _, _, _, rfl, _⟩ := h; rfl) | (obtain ⟨_, _, _, _, _, _, _, _, _, _, _, _, _, _, _, _, rfl, _⟩ := h; rfl)) (fun cdv A outer s H vs Q E hr h => ?_), hm, hb⟩, T.l_Prizes⟩
  obtain ⟨p, a, L, n, fs, ret, ws, ls, rfl, ⟨dx, l, wl, ll, h1, h2, h3, h4⟩, hL, hlb, k1, k2⟩ := h
  have h4' := h4
  obtain ⟨ldx, fl, lt, hh, wol, ps, a1, _, _, _, _, _, _⟩ := h4'
  unfold IL at h2 h3
  have D_Ladder_check_rung := d_Ladder_check_rung (P := P) (base := base) T
  have D_Ladder_lanes := d_Ladder_lanes (P := P) (base := base) T
  have l_Prizes := T.l_Prizes
  have n_Prizes_ladder_kept := T.n_Prizes_ladder_kept
  have n_Prizes_win_list := T.n_Prizes_win_list
  have n_Prizes_lose_list := T.n_Prizes_lose_list
  refine ⟨_, (pss_cons (ps_expr (pe_mthS D_Ladder_check_rung (hr.mono (by decide)) (takes_of rfl rfl rfl rfl) (pe_fld (pv 0) rfl) (pa_cons (pv 1) pa_nil)))
      (pss_one (ps_ret (pe_op op_uAdd (pe_ix ix_seq (pe_fld (pv 0) rfl) (pv 1) (fun _ _ => rfl)) (pe_op op_uMul (pe_op op_sub (pe_mth0 D_Ladder_lanes (hr.mono (by decide)) (pe_fld (pv 0) rfl)) pe_int) (pe_ix ix_seq (pe_fld (pv 0) rfl) (pv 1) (fun _ _ => rfl))))))), ?_⟩
  try dsimp only [cxOf, Cx.nox, Cx.wish]
  show (_ : TS) _ [some _, some _] _
  o_readsAll
  refine c_crung h4 (fun a0 an => ?_) k2
  obtain ⟨a, rfl⟩ : ∃ a' : Nat, a = a' := ⟨a.toNat, by omega⟩
  have han : a < n := by omega
  o_readsAll
  refine g_ixL (.of h2) (atI_nat (rng_at han)) ?_
  o_readsAll
  refine c_lnum h4 ?_
  o_readsAll
  refine g_ixL (.of h3) (atI_nat (rng_at han)) ?_
  o_readsAll
  exact k1 a rfl han
end
end L30

namespace L30
set_option exponentiation.threshold 9000
open SX Ld
section
variable {P : Program} {w : World} {K : PySem.W.Frag} {mg : Str → Option Value} {base : Heap} {Z : Ad}
theorem c_weights {C l : Addr} {L : Int} {n : Nat} {fs : Nat → Int} {ret : Bool} {H : Hp} {Q : VK} {E : XK} (h : LadAt C H l L n fs ret) (hn : n ≤ 40) (k : ∀ H' p lp hp wp ps, Same H H' → H' p = some (.tup [.ref lp, .ref hp, .ref wp]) → H' lp = some (.lst (ps.map V.ref)) → ps.length = n → RowsAt H' ps n L fs → IL H' hp (n + 1) (hd L fs) → IL H' wp (n + 1) (wd L fs) → Q (.ref p) H') : sp_weights C [.ref l] H Q E := ⟨l, L, n, fs, ret, rfl, h, hn, fun H' p lp hp wp ps a b c d e f g _ => k H' p lp hp wp ps a b c d e f g⟩
theorem c_ppm {C CL CB p : Addr} {a : Nat} {L : Int} {n : Nat} {fs : Nat → Int} {ret : Bool} {ws ls : Nat → Int} {H : Hp} {Q : VK} {E : XK} (h : PzAt C CL H p L n fs ret ws ls) (hL : L.natAbs ≤ 6) (hlb : ∀ i, i < n → (ls i).natAbs < 2 ^ 1000) (han : a < n) (k : Q (.int (pay L ws ls a)) H) : sp_ppm C CL CB [.ref p, .int (a : Int)] H Q E := ⟨p, a, L, n, fs, ret, ws, ls, rfl, h, hL, hlb, fun a' e _ => (show a = a' by omega) ▸ k, fun h => absurd ⟨by omega, by omega⟩ h⟩
/-- prizes that are right, their ladder too -/
structure ZOk (L : Int) (n : Nat) (fs ws ls : Nat → Int) : Prop where
  l2 : 2 ≤ L
  l6 : L ≤ 6
  n0 : 0 < n
  n40 : n ≤ 40
  ok : OkF fs
  w0 : ∀ i, i < n → 0 ≤ ws i
  v0 : ∀ i, i < n → 0 ≤ ls i
  wb : ∀ i, i < n → (ws i).natAbs < 2 ^ 101
  lb : ∀ i, i < n → (ls i).natAbs < 2 ^ 101
/-- the sums at each place -/
def sv (L : Int) (fs ws ls : Nat → Int) : Nat → Int := gv L fs 0 (pay L ws ls)
theorem gv_bdB {L : Int} {fs : Nat → Int} {x : Int} {ch : Nat → Int} {B n : Nat} (ok : OkF fs) (h1 : 0 ≤ L) (h2 : L ≤ 6) (hx : x.natAbs ≤ B) (hc : ∀ i, i < n → (ch i).natAbs ≤ B) : ∀ b, b ≤ n → (gv L fs x ch b).natAbs ≤ B * 12 ^ b := by
  intro b
  induction b using Nat.strongRecOn with
  | _ b ih =>
    intro hbn
    cases b with
    | zero =>
      rw [gv_zero, Nat.pow_zero, Nat.mul_one]
      exact hx
    | succ m =>
      rw [gv_succ (ok m).2.1]
      have i1 := ih m (by omega) (by omega)
      have i2 : (lowV (gv L fs x ch) (fs m)).natAbs ≤ B * 12 ^ m := by
        unfold lowV
        have := ok m
        split
        · exact Nat.zero_le _
        · exact Nat.le_trans (ih _ (by omega) (by omega)) (Nat.mul_le_mul_left _ (pow12 (by omega)))
      have i3 := hc m (by omega)
      have p1 : B ≤ B * 12 ^ m := Nat.le_mul_of_pos_right _ (Nat.pow_pos (by decide))
      rw [Nat.pow_succ, ← Nat.mul_assoc]
      generalize B * 12 ^ m = C at *
      generalize gv L fs x ch m = g at *
      generalize lowV (gv L fs x ch) (fs m) = l at *
      generalize ch m = c at *
      have q1 : (L * g).natAbs ≤ 6 * C := by rw [Int.natAbs_mul]; exact Nat.mul_le_mul (by omega) i1
      have q2 : ((L - 1) * l).natAbs ≤ 5 * C := by rw [Int.natAbs_mul]; exact Nat.mul_le_mul (by omega) i2
      generalize L * g = u at *
      generalize (L - 1) * l = v at *
      omega
theorem hd_pos {L : Int} {fs : Nat → Int} (ok : OkF fs) (h1 : 1 ≤ L) (b : Nat) : 1 ≤ hd L fs b :=
  (gv_mono (x := 1) (ch := fun _ => 0) ok h1 (by decide) (fun _ => by decide) b).2 0 (Nat.zero_le _)
theorem sv_bd {L : Int} {n : Nat} {fs ws ls : Nat → Int} (ok : ZOk L n fs ws ls) {b : Nat} (hb : b ≤ n) : (sv L fs ws ls b).natAbs < 2 ^ 300 := by
  have l2 := ok.l2
  have l6 := ok.l6
  have n40 := ok.n40
  refine Nat.lt_of_le_of_lt (gv_bdB (B := 2 ^ 105) (n := n) ok.ok (by omega) l6 (by decide) (fun i hi => ?_) b hb) ?_
  · have h1 := ok.wb i hi
    have h2 := ok.lb i hi
    have h3 : ((L - 1) * ls i).natAbs ≤ 5 * (ls i).natAbs := by rw [Int.natAbs_mul]; exact Nat.mul_le_mul_right _ (by omega)
    have h4 : (2 : Nat) ^ 105 = 16 * 2 ^ 101 := by decide
    unfold pay
    rw [h4]
    generalize (2 : Nat) ^ 101 = X at *
    omega
  · have : 12 ^ b ≤ 12 ^ 40 := pow12 (by omega)
    have h : (2 : Nat) ^ 105 * 12 ^ 40 < 2 ^ 300 := by decide +kernel
    exact Nat.lt_of_le_of_lt (Nat.mul_le_mul_left _ this) h
theorem fr_claim {h e0 s e1 : Int} (e10 : 0 < e1) : fr1 (fr1 (h * e0) e1 * 1 - s * fr2 (h * e0) e1) (fr2 (h * e0) e1 * 1) = fr1 (h * e0 - s * e1) e1 ∧ fr2 (fr1 (h * e0) e1 * 1 - s * fr2 (h * e0) e1) (fr2 (h * e0) e1 * 1) = fr2 (h * e0 - s * e1) e1 := by
  obtain ⟨q1, q2⟩ := fr_eq (a := h * e0) e10
  have g0 := gcd_pos (a := h * e0) e10
  generalize (Nat.gcd (h * e0).natAbs e1.natAbs) = g at *
  generalize fr1 (h * e0) e1 = u at *
  generalize fr2 (h * e0) e1 = v at *
  have hs := fr_scale (a := u * 1 - s * v) (b := v * 1) (g := (g : Int)) (by omega)
  have m1 : (g : Int) * (u * 1 - s * v) = h * e0 - s * e1 := by
    rw [q1, q2, Int.mul_one, Int.mul_sub, Int.mul_comm (g : Int) u, ← Int.mul_assoc s v, Int.mul_comm (g : Int) (s * v)]
  have m2 : (g : Int) * (v * 1) = e1 := by rw [Int.mul_one, q2, Int.mul_comm]
  rw [m1, m2] at hs
  exact ⟨hs.1.symm, hs.2.symm⟩
def sp_psums (C CL : Addr) : Sp := fun vs H Q _ => ∃ (p : Addr) (L : Int) (n : Nat) (fs : Nat → Int) (ret : Bool) (ws ls : Nat → Int), vs = [.ref p] ∧ PzAt C CL H p L n fs ret ws ls ∧ ZOk L n fs ws ls ∧ ∀ q H', H q = none → Same H H' → IL H' q (n + 1) (sv L fs ws ls) → Q (.ref q) H'
theorem d_Prizes_sums (T : Txt K w mg Z) : Mth P w K mg base 5 Z.a_Prizes "sums" ["self"] (sp_psums Z.a_Prizes Z.a_Ladder) := by
  obtain ⟨f, fd, F, hm, hb⟩ := T.f_Prizes_sums
  refine ⟨⟨f, fd, F.ok sc_Prizes_sums (fun vs H Q E h => by first | (obtain ⟨rfl, _⟩ := h; rfl) | (obtain ⟨_, rfl, _⟩ := h; rfl) | (obtain ⟨_, _, rfl, _⟩ := h; rfl) | (obtain ⟨_, _, _, rfl, _⟩ := h; rfl) | (obtain ⟨_, _, _, _, rfl, _⟩ := h; rfl) | (obtain ⟨_, _, _, _, _, rfl, _⟩ := h; rfl) | (obtain ⟨_, _, _, _, _, _, rfl, _⟩ := h; rfl) | (obtain ⟨_, _, _, _, _, _, _, rfl, _⟩ := h; rfl) | (obtain ⟨_, _, _, _, _, _, _, _, rfl, _⟩ := h; rfl) | (obtain ⟨_, _, _, _, _, _, _, _, _, rfl, _⟩ := h; rfl) | (obtain ⟨_, _, _, _, _, _, _, _, _, _, rfl, _⟩ := h; rfl) | (obtain ⟨_, _, _, _, _, _, _, _, _, _, _, rfl, _⟩ := h; rfl) | (obtain ⟨_, _, _, _, _, _, _, _, _, _, _, _, rfl, _⟩ := h; rfl) | (obtain ⟨_, _, _, _, _, _, _, _, _, _, _, _, _, rfl, _⟩ := h; rfl) | (obtain ⟨_, _, _, _, _, _, _, _, _, _, _, _, _, _, rfl, _⟩ := h; rfl) | (obtain ⟨_, _, _, _, _, _, _, _, _, _, _, _, _, _, _, rfl, _⟩ := h; rfl) | (obtain ⟨_, _, _, _, _, _, _, _, _, _, _, _, _, _, _, _, rfl, _⟩ := h; rfl)) (fun cdv A outer s H vs Q E hr h => ?_), hm, hb⟩, T.l_Prizes⟩
  obtain ⟨p, L, n, fs, ret, ws, ls, rfl, hp, ok, k⟩ := h
  have hp' := hp
  obtain ⟨dx, l, wl, ll, h1, h2, h3, h4⟩ := hp'
  have h4' := h4
  obtain ⟨ldx, fl, lt, hh, wol, ps, a1, _, _, _, _, _, _⟩ := h4'
  have l2 := ok.l2
  have l6 := ok.l6
  have n40 := ok.n40
  have D_grown := d_grown (P := P) (base := base) T
  have D_Prizes_per_meeting := d_Prizes_per_meeting (P := P) (base := base) T
  have D_Ladder_lanes := d_Ladder_lanes (P := P) (base := base) T
  have D_Ladder_falls := d_Ladder_falls (P := P) (base := base) T
  have D_Ladder_rungs := d_Ladder_rungs (P := P) (base := base) T
  have l_Prizes := T.l_Prizes
  have n_Prizes_ladder_kept := T.n_Prizes_ladder_kept
  refine ⟨_, (pss_cons (ps_setLc (i := 1) (own := [("a", 2)]) (by rfl) sc_Prizes_sums.nd rfl rfl (sw_true rfl rfl rfl (by decide +kernel)) (pi_range1 (by rfl) T.b_range (pa_cons (pe_mth0 D_Ladder_rungs (hr.mono (by decide)) (pe_fld (pv 0) rfl)) pa_nil)) (blkOk_by (N := n_Prizes_sums) (sc := defScope st_Prizes_sums) (by decide +kernel)) (fun _ _ _ _ _ => (pg_name (i := 2) sc_Prizes_sums.nd rfl (.inl rfl))) (fun _ _ _ _ _ => pts_nil) (fun _ _ _ _ _ => (pe_mthS D_Prizes_per_meeting (hr.mono (by decide)) takes0 (pv 0) (pa_cons (pv 2) pa_nil))))
      (pss_one (ps_ret (pe_dfn D_grown (hr.mono (by decide)) (by rfl) (pa_cons (pe_mth0 D_Ladder_lanes (hr.mono (by decide)) (pe_fld (pv 0) rfl)) (pa_cons (pe_mth0 D_Ladder_falls (hr.mono (by decide)) (pe_fld (pv 0) rfl)) (pa_cons pe_int (pa_cons (pv 1) pa_nil)))))))), ?_⟩
  try dsimp only [cxOf, Cx.nox, Cx.wish]
  show (_ : TS) _ [some _, none, none] _
  o_readsAll
  refine c_lnum h4 ?_
  o_readsAll
  rw [Int.toNat_natCast]
  refine l_rngP (fun a => .int (pay L ws ls a)) (fun x => rfl) (fun D a H' ha hD e hl' => ?_) fun q H1 fq e1 hq => ?_
  · rw [Int.zero_add]
    have h1e := e _ _ h1
    o_readsAll
    refine c_ppm (hp.same e) (by omega) (fun i hi => Nat.lt_trans (ok.lb i hi) (by decide)) ha ?_
    exact g_itemP e hl' hD (by rw [sizeLine_eq]; have := ok.n40; omega) rfl
  · have hq' : IL H1 q n (pay L ws ls) := hq
    have h11 := e1 _ _ h1
    have a11 := e1 _ _ a1
    o_readsAll
    refine c_lnum (h4.same e1) ?_
    o_readsAll
    refine c_lfalls (h4.same e1) fun fq' H2 ffq e2 hfq => ?_
    o_readsAll
    refine c_grown hfq (hq'.same e2) ok.n40 ok.ok (by omega) l6 fun r H3 fr e3 hr3 => ?_
    exact k r H3 ((e1.trans e2).free fr) ((e1.trans e2).trans e3) hr3
theorem c_psums {C CL p : Addr} {L : Int} {n : Nat} {fs : Nat → Int} {ret : Bool} {ws ls : Nat → Int} {H : Hp} {Q : VK} {E : XK} (h : PzAt C CL H p L n fs ret ws ls) (ok : ZOk L n fs ws ls) (k : ∀ q H', H q = none → Same H H' → IL H' q (n + 1) (sv L fs ws ls) → Q (.ref q) H') : sp_psums C CL [.ref p] H Q E := ⟨p, L, n, fs, ret, ws, ls, rfl, h, ok, k⟩
/-- a claim at a place, at an entry -/
def ClAt (H : Hp) (qs : List Addr) (m : Nat) (L : Int) (fs ws ls : Nat → Int) (e0 e1 : Int) : Prop := qs.length = m ∧ ∀ i q, qs[i]? = some q → FrAt H q (hd L fs i * e0 - sv L fs ws ls i * e1) e1
def sp_pclaims (C CL : Addr) : Sp := fun vs H Q _ => ∃ (p e : Addr) (e0 e1 L : Int) (n : Nat) (fs : Nat → Int) (ret : Bool) (ws ls : Nat → Int), vs = [.ref p, .ref e] ∧ H e = some (.tup [.int e0, .int e1]) ∧ 0 < e1 ∧ e0.natAbs < 2 ^ 3000 ∧ e1.natAbs < 2 ^ 3000 ∧ PzAt C CL H p L n fs ret ws ls ∧ ZOk L n fs ws ls ∧ ∀ q qs H', H q = none → Same H H' → H' q = some (.lst (qs.map V.ref)) → ClAt H' qs (n + 1) L fs ws ls e0 e1 → Q (.ref q) H'
theorem d_Prizes_claims (T : Txt K w mg Z) : Mth P w K mg base 6 Z.a_Prizes "claims" ["self", "entry"] (sp_pclaims Z.a_Prizes Z.a_Ladder) := by
  obtain ⟨f, fd, F, hm, hb⟩ := T.f_Prizes_claims
  refine ⟨⟨f, fd, F.ok sc_Prizes_claims (fun vs H Q E h => by first | (obtain ⟨rfl, _⟩ := h; rfl) | (obtain ⟨_, rfl, _⟩ := h; rfl) | (obtain ⟨_, _, rfl, _⟩ := h; rfl) | (obtain ⟨_, _, _, rfl, _⟩ := h; rfl) | (obtain ⟨_, _, _, _, rfl, _⟩ := h; rfl) | (obtain ⟨_, _, _, _, _, rfl, _⟩ := h; rfl) | (obtain ⟨_, _, _, _, _, _, rfl, _⟩ := h; rfl) | (obtain ⟨_, _, _, _, _, _, _, rfl, _⟩ := h; rfl) | (obtain ⟨_, _, _, _, _, _, _, _, rfl, _⟩ := h; rfl) | (obtain ⟨_, _, _, _, _, _, _, _, _, rfl, _⟩ := h; rfl) | (obtain ⟨_, _, _, _, _, _, _, _, _, _, rfl, _⟩ := h; rfl) | (obtain ⟨_, _, _, _, _, _, _, _, _, _, _, rfl, _⟩ := h; rfl) | (obtain ⟨_, _, _, _, _, _, _, _, _, _, _, _, rfl, _⟩ := h; rfl) | (obtain ⟨_, _, _, _, _, _, _, _, _, _, _, _, _, rfl, _⟩ := h; rfl) | (obtain ⟨_, _, _, _, _, _, _, _, _, _, _, _, _, _, rfl, _⟩ := h; rfl) | (obtain ⟨_, _, _, _, _, _, _, _, _, _, _, _, _, _, _, rfl, _⟩ := h; rfl) | (obtain ⟨_, _, _, _, _, _, _, _, _, _, _, _, _, _, _, _, rfl, _⟩ := h; rfl)) (fun cdv A outer s H vs Q E hr h => ?_), hm, hb⟩, T.l_Prizes⟩
  obtain ⟨p, e, e0, e1, L, n, fs, ret, ws, ls, rfl, he, e10, eb0, eb1, hpz, ok, k⟩ := h
  have hp' := hpz
  obtain ⟨dx, l, wl, ll, h1, h2, h3, h4⟩ := hp'
  have h4' := h4
  obtain ⟨ldx, fl, lt, hh, wol, ps, a1, _, _, _, _, _, _⟩ := h4'
  have n40 := ok.n40
  have D_Ladder_weights := d_Ladder_weights (P := P) (base := base) T
  have D_taken := d_taken (P := P) (base := base) T
  have D_times := d_times (P := P) (base := base) T
  have D_Prizes_sums := d_Prizes_sums (P := P) (base := base) T
  have l_Prizes := T.l_Prizes
  have n_Prizes_ladder_kept := T.n_Prizes_ladder_kept
  refine ⟨_, (pss_cons (ps_asg (pe_mth0 D_Ladder_weights (hr.mono (by decide)) (pe_fld (pv 0) rfl)) (pg_tup (by rfl) (pgs_cons (pg_name (i := 2) sc_Prizes_claims.nd rfl (.inl rfl)) (pgs_cons (pg_name (i := 3) sc_Prizes_claims.nd rfl (.inl rfl)) (pgs_cons (pg_name (i := 4) sc_Prizes_claims.nd rfl (.inl rfl)) pgs_nil)))))
      (pss_one (ps_ret (pe_lc (own := [("many", 5), ("paid", 6)]) (by rfl) sc_Prizes_claims.nd (pi_zip (by rfl) T.b_zip (pa_cons (pv 3) (pa_cons (pe_mth0 D_Prizes_sums (hr.mono (by decide)) (pv 0)) pa_nil))) (blkOk_by (N := n_Prizes_claims) (sc := defScope st_Prizes_claims) (by decide +kernel)) (fun _ _ _ _ _ => (pg_tupK (K := K) (n := 2) rfl (by rfl) (pgs_cons (pg_name (i := 5) sc_Prizes_claims.nd rfl (.inl rfl)) (pgs_cons (pg_name (i := 6) sc_Prizes_claims.nd rfl (.inl rfl)) pgs_nil)))) (fun _ _ _ _ _ => pts_nil) (fun _ _ _ _ _ => (pe_dfn D_taken (hr.mono (by decide)) (by rfl) (pa_cons (pe_dfn D_times (hr.mono (by decide)) (by rfl) (pa_cons (pv 5) (pa_cons (pv 1) pa_nil))) (pa_cons (pe_tup (pa_cons (pv 6) (pa_cons pe_int pa_nil))) pa_nil)))))))), ?_⟩
  try dsimp only [cxOf, Cx.nox, Cx.wish]
  show (_ : TS) _ [some _, some _, none, none, none, none, none] _
  o_readsAll
  refine c_weights h4 ok.n40 fun H1 tp lp hp wp qs' f1 htp hlp hpl hR hH hW => ?_
  have hH' := hH
  unfold IL at hH'
  have h11 := f1 _ _ h1
  have ee1 := f1 _ _ he
  o_readsAll
  refine i_zip ?_
  o_readsAll
  refine c_psums (hpz.same f1) ok fun sq H2 fsq f2 hsq => ?_
  have f02 := f1.trans f2
  have hH2 := hH.same f2
  have e2' := f02 _ _ he
  o_readsAll
  refine g_zip hH2.sq hsq.sq ?_
  o_readsAll
  refine l_it (walk_zip (xs := rng (n + 1) (hd L fs)) (ys := rng (n + 1) (sv L fs ws ls)) (n := n + 1) (by rw [rng_len, rng_len, Nat.min_self])) (fun D i acc H' => ∃ qs : List Addr, acc = qs.map V.ref ∧ qs.length = i ∧ Same H2 H' ∧ ∀ j q, qs[j]? = some q → FrAt H' q (hd L fs j * e0 - sv L fs ws ls j * e1) e1) (fun D hD => ⟨[], rfl, rfl, Eg.Same.put (Same.refl _) hD, fun _ _ h => (nomatch h)⟩) (fun D i acc H' hD _ _ pv => ?_) (fun D i x acc Ha Hb hD hi e le pv y => ?_) (fun D acc H' hD e _ pv => ?_)
  · obtain ⟨_, _, _, f3, _⟩ := pv
    exact ⟨(hH2.same f3).sq, (hsq.same f3).sq⟩
  · obtain ⟨T1, x1, y1, z1, fT, zH, z4, z5⟩ := y
    obtain ⟨qs, rfl, hql, f3, hF⟩ := pv
    subst z1 zH
    have z6 : (rng (n + 1) (hd L fs))[i]? = some x1 := z4
    have z7 : (rng (n + 1) (sv L fs ws ls))[i]? = some y1 := z5
    clear z4 z5
    rw [rng_at hi] at z6 z7
    cases z6
    cases z7
    have fT' : Same Ha (upd Ha T1 (.tup [.int (hd L fs i), .int (sv L fs ws ls i)])) := fun b u q => by rw [upd_ne (ne_of_none q fT)]; exact q
    have f4 := f3.trans fT'
    have eD := fT' _ _ e
    have hF4 : ∀ j q, qs[j]? = some q → FrAt (upd Ha T1 (.tup [.int (hd L fs i), .int (sv L fs ws ls i)])) q (hd L fs j * e0 - sv L fs ws ls j * e1) e1 := fun j q hq => fT' _ _ (hF j q hq)
    have e4 := f4 _ _ e2'
    refine ⟨T1, _, rfl, .of upd_same, rfl, _, _, rfl, _, _, rfl, rfl, rfl, ?_⟩
    generalize upd Ha T1 (.tup [.int (hd L fs i), .int (sv L fs ws ls i)]) = Hc at *
    have bh := hd_bd (L := L) ok.ok (by have := ok.l2; omega) ok.l6 i (by omega)
    have bs := sv_bd ok (b := i) (by omega)
    have w4000 : ∀ {z : Int} {k : Nat}, z.natAbs < 2 ^ k → k ≤ 3900 → z.natAbs < 2 ^ 3900 := fun h hk => Nat.lt_of_lt_of_le h (Nat.pow_le_pow_right (by decide) hk)
    o_readsAll
    refine c_times e4 e10 (Nat.lt_of_lt_of_le bh (Nat.pow_le_pow_right (by decide) (by decide))) (Nat.lt_of_lt_of_le eb0 (Nat.pow_le_pow_right (by decide) (by decide))) (Nat.lt_of_lt_of_le eb1 (Nat.pow_le_pow_right (by decide) (by decide))) fun tq Hd ftq fd htq => ?_
    o_readsAll
    rename_i pq He fpq fe hpq
    have htq' := fe _ _ htq
    have b1 := fr_bd (a := hd L fs i * e0) e10 (nb_prod bh eb0)
    have b2 := fr2_bd (a := hd L fs i * e0) e10 eb1
    refine c_taken htq' hpq (fr2_pos e10) (by decide) (w4000 b1 (by decide)) (w4000 b2 (by decide)) (w4000 bs (by decide)) (by decide) fun r Hf fr ff hr3 => ?_
    obtain ⟨q1, q2⟩ := fr_claim (h := hd L fs i) (e0 := e0) (s := sv L fs ws ls i) e10
    have hr4 : FrAt Hf r (hd L fs i * e0 - sv L fs ws ls i * e1) e1 := by
      unfold FrAt at hr3 ⊢
      rw [q1, q2] at hr3
      exact hr3
    have fcf := (fd.trans fe).trans ff
    have eDf := fcf _ _ eD
    refine g_item eDf (by rw [List.length_map]; exact hql) (by rw [sizeLine_eq]; omega) ⟨qs ++ [r], by rw [List.map_append]; rfl, by rw [List.length_append, hql]; rfl, Eg.Same.put (f4.trans fcf) hD, fun j q hq => ?_⟩
    have put : ∀ {q : Addr} {a b : Int}, FrAt Hf q a b → FrAt (upd Hf D (.lst (qs.map V.ref ++ [V.ref r]))) q a b := fun h => by
      unfold FrAt
      rw [upd_ne (ne_of h eDf (fun z => nomatch z))]
      exact h
    by_cases hj : j < qs.length
    · rw [List.getElem?_append_left hj] at hq
      exact put (fcf _ _ (hF4 j q hq))
    · rw [List.getElem?_append_right (by omega)] at hq
      have hj0 : j - qs.length = 0 := by
        by_cases h0 : j - qs.length = 0
        · exact h0
        · rw [List.getElem?_eq_none (by simp; omega)] at hq
          cases hq
      rw [hj0] at hq
      cases hq
      rw [show j = i by omega]
      exact put hr4
  · obtain ⟨qs, rfl, hql, f3, hF⟩ := pv
    exact k D qs H' (f02.free hD) (f02.trans f3) e ⟨hql, hF⟩
def sp_pfair (C CL : Addr) : Sp := fun vs H Q _ => ∃ (p : Addr) (L : Int) (n : Nat) (fs : Nat → Int) (ret : Bool) (ws ls : Nat → Int), vs = [.ref p] ∧ PzAt C CL H p L n fs ret ws ls ∧ ZOk L n fs ws ls ∧ (hd L fs n - (if ret then 1 else 0) = 0 → ∀ H', Same H H' → Q .non H') ∧ (0 < hd L fs n - (if ret then 1 else 0) → ∀ q H', H q = none → Same H H' → FrAt H' q (sv L fs ws ls n) (hd L fs n - (if ret then 1 else 0)) → Q (.ref q) H')
theorem d_Prizes_fair_entry (T : Txt K w mg Z) : Mth P w K mg base 6 Z.a_Prizes "fair_entry" ["self"] (sp_pfair Z.a_Prizes Z.a_Ladder) := by
  obtain ⟨f, fd, F, hm, hb⟩ := T.f_Prizes_fair_entry
  refine ⟨⟨f, fd, F.ok sc_Prizes_fair_entry (fun vs H Q E h => by first | (obtain ⟨rfl, _⟩ := h; rfl) | (obtain ⟨_, rfl, _⟩ := h; rfl) | (obtain ⟨_, _, rfl, _⟩ := h; rfl) | (obtain ⟨_, _, _, rfl, _⟩ := h; rfl) | (obtain ⟨_, _, _, _, rfl, _⟩ := h; rfl) | (obtain ⟨_, _, _, _, _, rfl, _⟩ := h; rfl) | (obtain ⟨_, _, _, _, _, _, rfl, _⟩ := h; rfl) | (obtain ⟨_, _, _, _, _, _, _, rfl, _⟩ := h; rfl) | (obtain ⟨_, _, _, _, _, _, _, _, rfl, _⟩ := h; rfl) | (obtain ⟨_, _, _, _, _, _, _, _, _, rfl, _⟩ := h; rfl) | (obtain ⟨_, _, _, _, _, _, _, _, _, _, rfl, _⟩ := h; rfl) | (obtain ⟨_, _, _, _, _, _, _, _, _, _, _, rfl, _⟩ := h; rfl) | (obtain ⟨_, _, _, _, _, _, _, _, _, _, _, _, rfl, _⟩ := h; rfl) | (obtain ⟨_, _, _, _, _, _, _, _, _, _, _, _, _, rfl, _⟩ := h; rfl) | (obtain ⟨_, _, _, _, _, _, _, _, _, _, _, _, _, _, rfl, _⟩ := h; rfl) | (obtain ⟨_, _, _, _, _, _, _, _, _, _, _, _, _, _, _, rfl, _⟩ := h; rfl) | (obtain ⟨_, _, _, _, _, _, _, _, _, _, _, _, _, _, _, _, rfl, _⟩ := h; rfl)) (fun cdv A outer s H vs Q E hr h => ?_), hm, hb⟩, T.l_Prizes⟩
  obtain ⟨p, L, n, fs, ret, ws, ls, rfl, hp, ok, k1, k2⟩ := h
  have hp' := hp
  obtain ⟨dx, l, wl, ll, h1, h2, h3, h4⟩ := hp'
  have h4' := h4
  obtain ⟨ldx, fl, lt, hh, wol, ps, a1, _, _, _, _, _, _⟩ := h4'
  have D_Ladder_rungs := d_Ladder_rungs (P := P) (base := base) T
  have D_Ladder_heads := d_Ladder_heads (P := P) (base := base) T
  have D_fraction := d_fraction (P := P) (base := base) T
  have D_Ladder_returns := d_Ladder_returns (P := P) (base := base) T
  have D_Prizes_sums := d_Prizes_sums (P := P) (base := base) T
  have l_Prizes := T.l_Prizes
  have n_Prizes_ladder_kept := T.n_Prizes_ladder_kept
  refine ⟨_, (pss_cons (ps_set (i := 1) sc_Prizes_fair_entry.nd rfl (.inl rfl) (pe_mth0 D_Ladder_rungs (hr.mono (by decide)) (pe_fld (pv 0) rfl)))
      (pss_cons (ps_set (i := 2) sc_Prizes_fair_entry.nd rfl (.inl rfl) (pe_op op_sub (pe_mthS D_Ladder_heads (hr.mono (by decide)) takes0 (pe_fld (pv 0) rfl) (pa_cons (pv 1) pa_nil)) (pe_ifExp (pt_u (pe_mth0 D_Ladder_returns (hr.mono (by decide)) (pe_fld (pv 0) rfl))) pe_int pe_int)))
      (pss_one (ps_ret (pe_ifExp (pt_cmpR op_gt (pv 2) pe_int (nomark _)) (pe_dfn D_fraction (hr.mono (by decide)) (by rfl) (pa_cons (pe_ix ix_seq (pe_mth0 D_Prizes_sums (hr.mono (by decide)) (pv 0)) (pv 1) (fun _ _ => rfl)) (pa_cons (pv 2) pa_nil))) pe_non))))), ?_⟩
  try dsimp only [cxOf, Cx.nox, Cx.wish]
  show (_ : TS) _ [some _, none, none] _
  o_readsAll
  refine c_lnum h4 ?_
  o_readsAll
  refine c_lval h4 (Nat.le_refl _) ?_
  o_readsAll
  refine c_lnum h4 ?_
  o_readsAll
  have l2 := ok.l2
  have l6 := ok.l6
  refine jnE (fun x H' => x = .int (if ret then 1 else 0) ∧ H' = H) ?_ (fun Q' hQ => brB (fun hb => ?_) (fun hb => ?_))
  · rintro x H' ⟨rfl, rfl⟩
    have n40 := ok.n40
    have hb1 := hd_bd (L := L) ok.ok (by omega) l6 n (by omega)
    obtain ⟨hh, hhe⟩ : ∃ z, z = hd L fs n - (if ret then 1 else 0) := ⟨_, rfl⟩
    have hdp := hd_pos (L := L) ok.ok (by omega) n
    have hhb : hh.natAbs < 2 ^ 151 ∧ 0 ≤ hh := by
      rw [hhe]
      have : (2 : Nat) ^ 151 = 2 * 2 ^ 150 := by decide
      generalize (2 : Nat) ^ 150 = X at *
      cases ret <;> simp only [if_true, if_false, Bool.false_eq_true] <;> omega
    rw [← hhe] at k1 k2
    o_readsAll
    rw [← hhe]
    refine br (fun hc => ?_) (fun hc => ?_)
    · o_readsAll
      refine c_psums hp ok fun q H1 fq e1 hq => ?_
      o_readsAll
      refine g_ixL hq.sq (atI_nat (rng_at (by omega))) ?_
      o_readsAll
      refine c_frac hc (Nat.lt_trans (sv_bd ok (by omega)) (Nat.pow_lt_pow_right (by decide) (by decide))) (Nat.lt_trans hhb.1 (Nat.pow_lt_pow_right (by decide) (by decide))) fun r H2 fr e2 hr2 => ?_
      exact k2 hc r H2 (e1.free fr) (e1.trans e2) hr2
    · o_readsAll
      exact k1 (by omega) _ (Same.refl _)
  · o_readsAll
    exact hQ _ _ ⟨by rw [hb]; rfl, rfl⟩
  · o_readsAll
    exact hQ _ _ ⟨by rw [hb]; rfl, rfl⟩
end
end L30

namespace L30
set_option exponentiation.threshold 9000
open SX Ld
section
variable {P : Program} {w : World} {K : PySem.W.Frag} {mg : Str → Option Value} {base : Heap} {Z : Ad}
/-- fractions over one number are compared by their upper parts -/
theorem fr_less {a b c : Int} (hc : 0 < c) : (fr1 a c * fr2 b c < fr1 b c * fr2 a c) ↔ a < b := by
  obtain ⟨a1, a2⟩ := fr_eq (a := a) hc
  obtain ⟨b1, b2⟩ := fr_eq (a := b) hc
  have ga := gcd_pos (a := a) hc
  have gb := gcd_pos (a := b) hc
  generalize Nat.gcd a.natAbs c.natAbs = g at *
  generalize Nat.gcd b.natAbs c.natAbs = k at *
  generalize fr1 a c = x at *
  generalize fr2 a c = y at *
  generalize fr1 b c = u at *
  generalize fr2 b c = v at *
  have gp : 0 < (g : Int) * (k : Int) := Int.mul_pos (by omega) (by omega)
  have e1 : x * v * ((g : Int) * k) = a * c := by
    rw [a1]
    conv => rhs; rw [b2]
    rw [Int.mul_assoc, Int.mul_assoc, ← Int.mul_assoc v, Int.mul_comm v, Int.mul_assoc]
  have e2 : u * y * ((g : Int) * k) = b * c := by
    rw [b1]
    conv => rhs; rw [a2]
    rw [Int.mul_comm (g : Int), Int.mul_assoc, Int.mul_assoc, ← Int.mul_assoc y, Int.mul_comm y, Int.mul_assoc]
  constructor
  · intro h
    have := Int.mul_lt_mul_of_pos_right h gp
    rw [e1, e2] at this
    exact Int.lt_of_mul_lt_mul_right this (by omega)
  · intro h
    have := Int.mul_lt_mul_of_pos_right h hc
    rw [← e1, ← e2] at this
    exact Int.lt_of_mul_lt_mul_right this (by omega)
theorem fr_zero {c : Int} (hc : 0 < c) : fr1 0 c = 0 ∧ fr2 0 c = 1 := by
  unfold fr1 fr2
  rw [Int.natAbs_zero, Nat.gcd_zero_left, show ((c.natAbs : Nat) : Int) = c by omega]
  exact ⟨Int.zero_ediv _, Int.ediv_self (by omega)⟩
/-- the most of so many, and of nought -/
def mx (N : Nat → Int) : Nat → Int
  | 0 => 0
  | k + 1 => if mx N k < N k then N k else mx N k
theorem mx_nn (N : Nat → Int) : ∀ k, 0 ≤ mx N k
  | 0 => Int.le_refl 0
  | k + 1 => by have := mx_nn N k; unfold mx; split <;> omega
theorem mx_nb {N : Nat → Int} {B : Nat} : ∀ {k : Nat}, (∀ i, i < k → (N i).natAbs < B) → 0 < B → (mx N k).natAbs < B
  | 0, _, h => h
  | k + 1, hN, h => by
    have h1 := mx_nb (k := k) (fun i hi => hN i (by omega)) h
    have h2 := hN k (by omega)
    unfold mx
    split <;> assumption
/-- all claims at the fair entry are at least nought -/
theorem fair_nn {L : Int} {n : Nat} {fs ch : Nat → Int} (ok : OkF fs) (h1 : 1 ≤ L) (hc : ∀ i, i < n → 0 ≤ ch i) {b : Nat} (hb : b ≤ n) : gv L fs 0 ch b * hd L fs n ≤ hd L fs b * gv L fs 0 ch n := by
  by_cases hlt : gv L fs 0 ch b * hd L fs n ≤ hd L fs b * gv L fs 0 ch n
  · exact hlt
  · exfalso
    have wdef : ∃ W : Nat → Int, ∀ k, W k = hd L fs k * gv L fs 0 ch n - gv L fs 0 ch k * hd L fs n := ⟨_, fun k => rfl⟩
    obtain ⟨W, hW⟩ := wdef
    have hu := hd_pos ok h1 n
    have hWb : W b < 0 := by rw [hW]; omega
    have hWn : W n = 0 := by rw [hW, Int.mul_comm (gv L fs 0 ch n), Int.sub_self]
    have hstep : ∀ k, k < n → W (k + 1) ≤ L * W k - (L - 1) * lowV W (fs k) := fun k hk => by
      have okk := ok k
      have hlow : lowV W (fs k) = lowV (hd L fs) (fs k) * gv L fs 0 ch n - lowV (gv L fs 0 ch) (fs k) * hd L fs n := by
        unfold lowV
        split
        · simp
        · exact hW _
      have c0 : 0 ≤ ch k * hd L fs n := Int.mul_nonneg (hc k hk) (by omega)
      rw [hW, hW, hlow, hd_succ ok, gv_succ okk.2.1]
      generalize hd L fs k = p at *
      generalize gv L fs 0 ch k = q at *
      generalize lowV (hd L fs) (fs k) = u at *
      generalize lowV (gv L fs 0 ch) (fs k) = v at *
      generalize gv L fs 0 ch n = S at *
      generalize hd L fs n = t at *
      simp only [Int.sub_mul, Int.add_mul, Int.mul_sub, Int.mul_assoc, Int.one_mul]
      omega
    have hgo : ∀ d k, k + d = n → W k < 0 → (∀ j, j ≤ k → W k ≤ W j) → False := fun d => by
      induction d with
      | zero =>
        intro k hk hneg _
        rw [show k = n by omega, hWn] at hneg
        omega
      | succ d ih =>
        intro k hk hneg hmin
        have okk := ok k
        have hs := hstep k (by omega)
        have hlow : W k ≤ lowV W (fs k) := by
          unfold lowV
          split
          · omega
          · exact hmin _ (by omega)
        have hm := Int.mul_le_mul_of_nonneg_left hlow (show 0 ≤ L - 1 by omega)
        have e : L * W k - (L - 1) * W k = W k := by rw [Int.sub_mul, Int.one_mul]; omega
        have hle : W (k + 1) ≤ W k := by omega
        exact ih (k + 1) (by omega) (by omega) fun j hj => by
          by_cases h : j = k + 1
          · rw [h]; exact Int.le_refl _
          · exact Int.le_trans hle (hmin j (by omega))
    have harg : ∀ b, ∃ j, j ≤ b ∧ ∀ i, i ≤ b → W j ≤ W i := fun b => by
      induction b with
      | zero => exact ⟨0, Nat.le_refl _, fun i hi => by rw [show i = 0 by omega]; exact Int.le_refl _⟩
      | succ b ih =>
        obtain ⟨j, hj, hm⟩ := ih
        by_cases h : W j ≤ W (b + 1)
        · exact ⟨j, by omega, fun i hi => by
            by_cases h2 : i = b + 1
            · rw [h2]; exact h
            · exact hm i (by omega)⟩
        · exact ⟨b + 1, Nat.le_refl _, fun i hi => by
            by_cases h2 : i = b + 1
            · rw [h2]; exact Int.le_refl _
            · have := hm i (by omega); omega⟩
    obtain ⟨j, hj, hm⟩ := harg b
    exact hgo (n - j) j (by omega) (by have := hm b (Nat.le_refl _); omega) fun i hi => hm i (by omega)
end
end L30

namespace L30
set_option exponentiation.threshold 9000
open SX Ld
section
variable {P : Program} {w : World} {K : PySem.W.Frag} {mg : Str → Option Value} {base : Heap} {Z : Ad}
/-- the parts of the fair entry -/
def opn (L : Int) (n : Nat) (fs : Nat → Int) (ret : Bool) : Int := hd L fs n - (if ret then 1 else 0)
def fe0 (L : Int) (n : Nat) (fs ws ls : Nat → Int) (ret : Bool) : Int := fr1 (sv L fs ws ls n) (opn L n fs ret)
def fe1 (L : Int) (n : Nat) (fs ws ls : Nat → Int) (ret : Bool) : Int := fr2 (sv L fs ws ls n) (opn L n fs ret)
/-- the upper part of a claim at the fair entry -/
def cN (L : Int) (fs ws ls : Nat → Int) (f0 f1 : Int) (i : Nat) : Int := hd L fs i * f0 - sv L fs ws ls i * f1
def ruin (ip e0 e1 f0 f1 M : Int) : Int := ip * fr1 M f1 * f1 * e1 / (fr2 M f1 * (f0 * e1 - e0 * f1)) + 1
theorem ruin_eq {ip e0 e1 f0 f1 M : Int} (h1 : 0 < f1) (h2 : 0 < e1) : ip * fr1 M f1 * fr2 (f0 * e1 - e0 * f1) (f1 * e1) / (fr2 M f1 * fr1 (f0 * e1 - e0 * f1) (f1 * e1)) + 1 = ruin ip e0 e1 f0 f1 M := by
  have hp : 0 < f1 * e1 := Int.mul_pos h1 h2
  obtain ⟨a1, a2⟩ := fr_eq (a := f0 * e1 - e0 * f1) hp
  have g0 := gcd_pos (a := f0 * e1 - e0 * f1) hp
  unfold ruin
  rw [Int.mul_assoc (ip * fr1 M f1) f1 e1]
  generalize Nat.gcd (f0 * e1 - e0 * f1).natAbs (f1 * e1).natAbs = g at *
  generalize fr1 (f0 * e1 - e0 * f1) (f1 * e1) = x at *
  generalize fr2 (f0 * e1 - e0 * f1) (f1 * e1) = y at *
  rw [a1, a2, ← Int.mul_assoc, ← Int.mul_assoc, Int.mul_comm _ (g : Int), Int.mul_comm _ (g : Int), Int.mul_ediv_mul_of_pos _ _ (by omega)]
theorem c_pfair {C CL p : Addr} {L : Int} {n : Nat} {fs : Nat → Int} {ret : Bool} {ws ls : Nat → Int} {H : Hp} {Q : VK} {E : XK} (h : PzAt C CL H p L n fs ret ws ls) (ok : ZOk L n fs ws ls) (k1 : opn L n fs ret = 0 → ∀ H', Same H H' → Q .non H') (k2 : 0 < opn L n fs ret → ∀ q H', H q = none → Same H H' → H' q = some (.tup [.int (fe0 L n fs ws ls ret), .int (fe1 L n fs ws ls ret)]) → Q (.ref q) H') : sp_pfair C CL [.ref p] H Q E := ⟨p, L, n, fs, ret, ws, ls, rfl, h, ok, k1, k2⟩
theorem c_pclaims {C CL p e : Addr} {e0 e1 L : Int} {n : Nat} {fs : Nat → Int} {ret : Bool} {ws ls : Nat → Int} {H : Hp} {Q : VK} {E : XK} (he : H e = some (.tup [.int e0, .int e1])) (e10 : 0 < e1) (eb0 : e0.natAbs < 2 ^ 3000) (eb1 : e1.natAbs < 2 ^ 3000) (h : PzAt C CL H p L n fs ret ws ls) (ok : ZOk L n fs ws ls) (k : ∀ q qs H', H q = none → Same H H' → H' q = some (.lst (qs.map V.ref)) → ClAt H' qs (n + 1) L fs ws ls e0 e1 → Q (.ref q) H') : sp_pclaims C CL [.ref p, .ref e] H Q E := ⟨p, e, e0, e1, L, n, fs, ret, ws, ls, rfl, he, e10, eb0, eb1, h, ok, k⟩
theorem opn_bd {L : Int} {n : Nat} {fs ws ls : Nat → Int} {ret : Bool} (ok : ZOk L n fs ws ls) : (opn L n fs ret).natAbs < 2 ^ 151 ∧ 0 ≤ opn L n fs ret := by
  have l2 := ok.l2
  have n40 := ok.n40
  have h1 := hd_bd (L := L) ok.ok (by omega) ok.l6 n (by omega)
  have h2 := hd_pos (L := L) ok.ok (by omega) n
  have : (2 : Nat) ^ 151 = 2 * 2 ^ 150 := by decide
  generalize (2 : Nat) ^ 150 = X at *
  unfold opn
  cases ret <;> simp only [if_true, if_false, Bool.false_eq_true] <;> omega
theorem fe_bd {L : Int} {n : Nat} {fs ws ls : Nat → Int} {ret : Bool} (ok : ZOk L n fs ws ls) (h : 0 < opn L n fs ret) : (fe0 L n fs ws ls ret).natAbs < 2 ^ 300 ∧ (fe1 L n fs ws ls ret).natAbs < 2 ^ 151 ∧ 0 < fe1 L n fs ws ls ret :=
  ⟨fr_bd h (sv_bd ok (Nat.le_refl _)), fr2_bd h (opn_bd ok).1, fr2_pos h⟩
theorem cN_bd {L : Int} {n : Nat} {fs ws ls : Nat → Int} {f0 f1 : Int} (ok : ZOk L n fs ws ls) (h0 : f0.natAbs < 2 ^ 300) (h1 : f1.natAbs < 2 ^ 151) {i : Nat} (hi : i < n + 1) : (cN L fs ws ls f0 f1 i).natAbs < 2 ^ 500 := by
  have l2 := ok.l2
  have n40 := ok.n40
  have a := nb_prod (hd_bd (L := L) ok.ok (by omega) ok.l6 i (by omega)) h0
  have b := nb_prod (sv_bd ok (b := i) (by omega)) h1
  exact Nat.lt_of_lt_of_le (nb_diff (Nat.lt_of_lt_of_le a (show (2 : Nat) ^ (150 + 300) ≤ 2 ^ (300 + 151) from Nat.pow_le_pow_right (by decide) (by decide))) b) (Nat.pow_le_pow_right (by decide) (by decide))
def sp_pruin (C CL : Addr) : Sp := fun vs H Q _ => ∃ (p e : Addr) (ip e0 e1 L : Int) (n : Nat) (fs : Nat → Int) (ret : Bool) (ws ls : Nat → Int), vs = [.ref p, .ref e, .int ip] ∧ H e = some (.tup [.int e0, .int e1]) ∧ 0 < e1 ∧ e0.natAbs < 2 ^ 1000 ∧ e1.natAbs < 2 ^ 1000 ∧ ip.natAbs < 2 ^ 100 ∧ PzAt C CL H p L n fs ret ws ls ∧ ZOk L n fs ws ls ∧ ((opn L n fs ret = 0 ∨ ¬ (e0 * fe1 L n fs ws ls ret < fe0 L n fs ws ls ret * e1)) → ∀ H', Same H H' → Q .non H') ∧ (0 < opn L n fs ret → e0 * fe1 L n fs ws ls ret < fe0 L n fs ws ls ret * e1 → ∀ H', Same H H' → Q (.int (ruin ip e0 e1 (fe0 L n fs ws ls ret) (fe1 L n fs ws ls ret) (mx (cN L fs ws ls (fe0 L n fs ws ls ret) (fe1 L n fs ws ls ret)) (n + 1)))) H')
theorem d_Prizes_ruin_after (T : Txt K w mg Z) : Mth P w K mg base 7 Z.a_Prizes "ruin_after" ["self", "entry", "in_play"] (sp_pruin Z.a_Prizes Z.a_Ladder) := by
  obtain ⟨f, fd, F, hm, hb⟩ := T.f_Prizes_ruin_after
  refine ⟨⟨f, fd, F.ok sc_Prizes_ruin_after (fun vs H Q E h => by first | (obtain ⟨rfl, _⟩ := h; rfl) | (obtain ⟨_, rfl, _⟩ := h; rfl) | (obtain ⟨_, _, rfl, _⟩ := h; rfl) | (obtain ⟨_, _, _, rfl, _⟩ := h; rfl) | (obtain ⟨_, _, _, _, rfl, _⟩ := h; rfl) | (obtain ⟨_, _, _, _, _, rfl, _⟩ := h; rfl) | (obtain ⟨_, _, _, _, _, _, rfl, _⟩ := h; rfl) | (obtain ⟨_, _, _, _, _, _, _, rfl, _⟩ := h; rfl) | (obtain ⟨_, _, _, _, _, _, _, _, rfl, _⟩ := h; rfl) | (obtain ⟨_, _, _, _, _, _, _, _, _, rfl, _⟩ := h; rfl) | (obtain ⟨_, _, _, _, _, _, _, _, _, _, rfl, _⟩ := h; rfl) | (obtain ⟨_, _, _, _, _, _, _, _, _, _, _, rfl, _⟩ := h; rfl) | (obtain ⟨_, _, _, _, _, _, _, _, _, _, _, _, rfl, _⟩ := h; rfl) | (obtain ⟨_, _, _, _, _, _, _, _, _, _, _, _, _, rfl, _⟩ := h; rfl) | (obtain ⟨_, _, _, _, _, _, _, _, _, _, _, _, _, _, rfl, _⟩ := h; rfl) | (obtain ⟨_, _, _, _, _, _, _, _, _, _, _, _, _, _, _, rfl, _⟩ := h; rfl) | (obtain ⟨_, _, _, _, _, _, _, _, _, _, _, _, _, _, _, _, rfl, _⟩ := h; rfl)) (fun cdv A outer s H vs Q E hr h => ?_), hm, hb⟩, T.l_Prizes⟩
  obtain ⟨p, e, ip, e0, e1, L, n, fs, ret, ws, ls, rfl, he, e10, eb0, eb1, ipb, hp, ok, k1, k2⟩ := h
  have hp' := hp
  obtain ⟨dx, l, wl, ll, h1, h2, h3, h4⟩ := hp'
  have n40 := ok.n40
  have D_Prizes_fair_entry := d_Prizes_fair_entry (P := P) (base := base) T
  have D_Prizes_claims := d_Prizes_claims (P := P) (base := base) T
  have D_taken := d_taken (P := P) (base := base) T
  have D_less := d_less (P := P) (base := base) T
  refine ⟨_, (pss_cons (ps_set (i := 3) sc_Prizes_ruin_after.nd rfl (.inl rfl) (pe_mth0 D_Prizes_fair_entry (hr.mono (by decide)) (pv 0)))
      (pss_cons (ps_if (PW.pt (pw_or (pt_cmpR op_uIsN (pv 3) pe_non (nomark _)) (pw_or1 (pt_not (pt_u (pe_dfn D_less (hr.mono (by decide)) (by rfl) (pa_cons (pv 1) (pa_cons (pv 3) pa_nil)))))))) (pss_one (ps_ret pe_non)) pss_nil)
      (pss_cons (ps_set (i := 4) sc_Prizes_ruin_after.nd rfl (.inl rfl) (pe_tup (pa_cons pe_int (pa_cons pe_int pa_nil))))
      (pss_cons (ps_for PassesOwn.never rfl (pi_list (pe_mth D_Prizes_claims (hr.mono (by decide)) (pv 0) (pa_cons (pv 3) pa_nil))) (pg_name (i := 5) sc_Prizes_ruin_after.nd rfl (.inl rfl))
        (pss_one (ps_if (pt_u (pe_dfn D_less (hr.mono (by decide)) (by rfl) (pa_cons (pv 4) (pa_cons (pv 5) pa_nil)))) (pss_one (ps_set (i := 4) sc_Prizes_ruin_after.nd rfl (.inl rfl) (pv 5))) pss_nil)))
      (pss_cons (ps_set (i := 6) sc_Prizes_ruin_after.nd rfl (.inl rfl) (pe_dfn D_taken (hr.mono (by decide)) (by rfl) (pa_cons (pv 3) (pa_cons (pv 1) pa_nil))))
      (pss_one (ps_ret (pe_op op_uAdd (pe_op op_uDiv (pe_op op_uMul (pe_op op_uMul (pv 2) (pe_ix ix_seq (pv 4) pe_int (fun _ _ => rfl))) (pe_ix ix_seq (pv 6) pe_int (fun _ _ => rfl))) (pe_op op_uMul (pe_ix ix_seq (pv 4) pe_int (fun _ _ => rfl)) (pe_ix ix_seq (pv 6) pe_int (fun _ _ => rfl)))) pe_int)))))))), ?_⟩
  try dsimp only [cxOf, Cx.nox, Cx.wish]
  show (_ : TS) _ [some _, some _, some _, none, none, none, none] _
  o_readsAll
  refine c_pfair hp ok (fun ho H1 f1 => ?_) fun ho fq H1 ffq f1 hfq => ?_
  · o_readsAll
    exact k1 (.inl ho) _ f1
  · obtain ⟨b0, b1, p1⟩ := fe_bd (ret := ret) ok ho
    generalize fe0 L n fs ws ls ret = q0 at *
    generalize fe1 L n fs ws ls ret = q1 at *
    have he1 := f1 _ _ he
    have bb : ∀ {z : Int} {k : Nat}, z.natAbs < 2 ^ k → k ≤ 3000 → z.natAbs < 2 ^ 3000 := fun h hk => Nat.lt_of_lt_of_le h (Nat.pow_le_pow_right (by decide) hk)
    have b4 : ∀ {z : Int}, z.natAbs < 2 ^ 3000 → z.natAbs < 2 ^ 4000 := fun h => Nat.lt_of_lt_of_le h (Nat.pow_le_pow_right (by decide) (by decide))
    have b39 : ∀ {z : Int}, z.natAbs < 2 ^ 3000 → z.natAbs < 2 ^ 3900 := fun h => Nat.lt_of_lt_of_le h (Nat.pow_le_pow_right (by decide) (by decide))
    have e0B := bb eb0 (by decide)
    have e1B := bb eb1 (by decide)
    have q0B := bb b0 (by decide)
    have q1B := bb b1 (by decide)
    o_readsAll
    refine c_less he1 hfq (b4 e0B) (b4 e1B) (b4 q0B) (b4 q1B) ?_
    o_readsAll
    refine brn (fun hl => ?_) (fun hl => ?_)
    · o_readsAll
      exact k1 (.inr hl) _ f1
    · o_readsAll
      rename_i mq H2 fmq f2 hmq N2 hN2
      have f02 := f1.trans f2
      have hfq2 := f2 _ _ hfq
      have h12 := f02 _ _ h1
      o_readsAll
      refine c_pclaims hfq2 p1 q0B q1B (hp.same f02) ok fun cq qs H3 fcq f3 hcq ⟨hql, hcl⟩ => ?_
      have f03 := f02.trans f3
      have f23 := f2.trans f3
      have hmq3 := f3 _ _ hmq
      obtain ⟨z1, z2⟩ := fr_zero p1
      o_readsAll
      refine f_lst (xs := qs.map V.ref) (fun i σ' H' => ∃ (mr : Addr) (x : Option V), σ' = [some (.ref p), some (.ref e), some (.int ip), some (.ref fq), some (.ref mr), x, none] ∧ H' = H3 ∧ FrAt H3 mr (mx (cN L fs ws ls q0 q1) i) q1) ⟨mq, _, rfl, rfl, by unfold FrAt mx; rw [z1, z2]; exact hmq3⟩ ?_ ?_ ?_
      · rintro i σ' H' hi ⟨mr, x, rfl, rfl, hm⟩
        exact .of hcq
      · rintro i y σ' H' hy ⟨mr, x, rfl, rfl, hm⟩
        rw [List.getElem?_map] at hy
        obtain ⟨c, hc, rfl⟩ := Option.map_eq_some_iff.mp hy
        have hi : i < n + 1 := by have := (List.getElem?_eq_some_iff.mp hc).1; omega
        have hcc : FrAt H' c (cN L fs ws ls q0 q1 i) q1 := hcl i c hc
        have m1 : (mx (cN L fs ws ls q0 q1) i).natAbs < 2 ^ 500 := mx_nb (fun j hj => cN_bd ok b0 b1 (by omega)) (by decide)
        have m2 := cN_bd ok b0 b1 hi
        o_readsAll
        refine c_less hm hcc (b4 (bb (fr_bd p1 m1) (by decide))) (b4 (bb (fr2_bd p1 b1) (by decide))) (b4 (bb (fr_bd p1 m2) (by decide))) (b4 (bb (fr2_bd p1 b1) (by decide))) ?_
        o_readsAll
        refine br (fun hb => ?_) (fun hb => ?_)
        · o_readsAll
          exact ⟨c, _, rfl, rfl, by unfold mx; rw [if_pos ((fr_less p1).mp hb)]; exact hcc⟩
        · o_readsAll
          exact ⟨mr, _, rfl, rfl, by unfold mx; rw [if_neg fun z => hb ((fr_less p1).mpr z)]; exact hm⟩
      · rintro σ' H' ⟨mr, x, rfl, rfl, hm⟩
        rw [List.length_map, hql] at hm
        have he3 := f03 _ _ he
        have hfq3 := f3 _ _ hfq2
        have m1 : (mx (cN L fs ws ls q0 q1) (n + 1)).natAbs < 2 ^ 500 := mx_nb (fun j hj => cN_bd ok b0 b1 (by omega)) (by decide)
        o_readsAll
        refine c_taken hfq3 he3 p1 e10 (b39 q0B) (b39 q1B) (b39 e0B) (b39 e1B) fun lq H4 flq f4 hlq => ?_
        have hm4 : FrAt H4 mr (mx (cN L fs ws ls q0 q1) (n + 1)) q1 := f4 _ _ hm
        unfold FrAt at hm4 hlq
        have d1 : 0 < q1 * e1 := Int.mul_pos p1 e10
        have lp : 0 < q0 * e1 - e0 * q1 := by omega
        have d2 : 0 < fr1 (q0 * e1 - e0 * q1) (q1 * e1) := by
          have z := (fr_eq (a := q0 * e1 - e0 * q1) d1).1
          have g0 := gcd_pos (a := q0 * e1 - e0 * q1) d1
          by_cases h : 0 < fr1 (q0 * e1 - e0 * q1) (q1 * e1)
          · exact h
          · have : fr1 (q0 * e1 - e0 * q1) (q1 * e1) * (Nat.gcd (q0 * e1 - e0 * q1).natAbs (q1 * e1).natAbs : Nat) ≤ 0 := Int.mul_nonpos_of_nonpos_of_nonneg (by omega) (by omega)
            omega
        have c1 := fr_bd (a := mx (cN L fs ws ls q0 q1) (n + 1)) p1 m1
        have c2 := fr2_bd (a := mx (cN L fs ws ls q0 q1) (n + 1)) p1 b1
        have c3 := fr2_bd (a := q0 * e1 - e0 * q1) d1 (nb_prod b1 eb1)
        have lb : (q0 * e1 - e0 * q1).natAbs < 2 ^ 1301 := nb_diff (nb_prod b0 eb1) (Nat.lt_of_lt_of_le (nb_prod eb0 b1) (Nat.pow_le_pow_right (by decide) (by decide)))
        have c4 := fr_bd (a := q0 * e1 - e0 * q1) d1 lb
        o_readsAll
        refine g_mulW (mul_nb ipb c1 (by decide)) ?_
        o_readsAll
        refine g_mulW (mul_nb (nb_prod ipb c1) c3 (by decide)) ?_
        o_readsAll
        refine g_mulW (mul_nb c2 c4 (by decide)) ?_
        o_readsAll
        refine g_divW (Int.mul_pos (fr2_pos p1) d2) (nb_prod c2 c4) (by decide) ?_
        o_readsAll
        rw [ruin_eq p1 e10]
        exact k2 ho hl H4 (f03.trans f4)
end
end L30

namespace L30
set_option exponentiation.threshold 9000
open SX Ld
section
variable {P : Program} {w : World} {K : PySem.W.Frag} {mg : Str → Option Value} {base : Heap} {Z : Ad}
theorem c_eheads {p : Addr} {L : Int} {n : Nat} {fs : Nat → Int} {ret : Bool} {H : Hp} {Q : VK} {E : XK} (h : PlA H p L n fs ret) (l0 : 0 ≤ L) (l6 : L ≤ 6) (n40 : n ≤ 40) (ok : OkF fs) (k : ∀ q H', H q = none → Same H H' → IL H' q (n + 1) (hd L fs) → Q (.ref q) H') : sp_eheads [.ref p] H Q E := ⟨p, L, n, fs, ret, rfl, h, l0, l6, n40, ok, k⟩
theorem c_eloads {p : Addr} {L : Int} {n : Nat} {fs : Nat → Int} {ret : Bool} {H : Hp} {Q : VK} {E : XK} (h : PlA H p L n fs ret) (l0 : 0 ≤ L) (l6 : L ≤ 6) (n40 : n ≤ 40) (ok : OkF fs) (k : ∀ q qs H', H q = none → Same H H' → H' q = some (.lst (qs.map V.ref)) → qs.length = n → RowsAt H' qs n L fs → Q (.ref q) H') : sp_eloads [.ref p] H Q E := ⟨p, L, n, fs, ret, rfl, h, l0, l6, n40, ok, k⟩
theorem sv_eq {L : Int} {fs ch : Nat → Int} (ok : OkF fs) {k : Nat} : ∀ b, b ≤ k → gv L fs 0 ch b = sm (fun a => ld L fs a b * ch a) k := by
  intro b
  induction b using Nat.strongRecOn with
  | _ b ih =>
    intro hb
    cases b with
    | zero => rw [sm_congr (g := fun _ => 0) (fun i _ => by rw [ld_zero ok 0 (by omega), Int.zero_mul]), sm_zero]; rfl
    | succ n =>
      have i1 := ih n (by omega) (by omega)
      have i2 : lowV (gv L fs 0 ch) (fs n) = sm (fun a => lowV (fun b => ld L fs a b * ch a) (fs n)) k := by
        rw [← lowV_sm]
        exact lowV_congr fun i hi => ih i (by have := (ok n).2.1; omega) (by have := (ok n).2.1; omega)
      have i3 : sm (fun a => dl a n * ch a) k = ch n := by
        rw [sm_congr (g := fun a => if a = n then ch a else 0) (fun i _ => by unfold Ld.dl; by_cases h : n = i; { rw [if_pos h, if_pos h.symm, Int.one_mul] }; { rw [if_neg h, if_neg (fun z => h z.symm), Int.zero_mul] }), sm_one n ch, if_pos (by omega)]
      have i4 : ∀ a, lowV (fun b => ld L fs a b * ch a) (fs n) = lowV (ld L fs a) (fs n) * ch a := fun a => by
        unfold lowV
        split
        · rw [Int.zero_mul]
        · rfl
      rw [gv_succ (ok n).2.1, i1, i2, sm_congr (f := fun a => ld L fs a (n + 1) * ch a) (g := fun a => (L * (ld L fs a n * ch a) - (L - 1) * lowV (fun b => ld L fs a b * ch a) (fs n)) + dl a n * ch a) (fun a _ => by rw [ld_succ ok a n, i4, Int.add_mul, Int.sub_mul, Int.mul_assoc, Int.mul_assoc]), sm_add, sm_sub, sm_mul, sm_mul, i3]
theorem rng_snoc (n : Nat) (f : Nat → Int) : rng (n + 1) f = rng n f ++ [.int (f n)] := by unfold rng; rw [List.range_succ, List.map_append]; rfl
theorem pay_bd {L : Int} {n : Nat} {fs ws ls : Nat → Int} (ok : ZOk L n fs ws ls) {i : Nat} (hi : i < n) : (pay L ws ls i).natAbs < 2 ^ 105 := by
  have l2 := ok.l2
  have l6 := ok.l6
  have h1 := ok.wb i hi
  have h2 := ok.lb i hi
  have h3 : ((L - 1) * ls i).natAbs ≤ 5 * (ls i).natAbs := by rw [Int.natAbs_mul]; exact Nat.mul_le_mul_right _ (by omega)
  have h4 : (2 : Nat) ^ 105 = 16 * 2 ^ 101 := by decide
  unfold pay
  rw [h4]
  generalize (2 : Nat) ^ 101 = X at *
  omega
def sp_kpaid : Sp := fun vs H Q _ => ∃ (p wq lq : Addr) (L : Int) (n : Nat) (fs : Nat → Int) (ret : Bool) (ws ls : Nat → Int), vs = [.ref p, .ref wq, .ref lq] ∧ PlA H p L n fs ret ∧ IL H wq n ws ∧ IL H lq n ls ∧ ZOk L n fs ws ls ∧ ∀ q H', H q = none → Same H H' → IL H' q (n + 1) (sv L fs ws ls) → Q (.ref q) H'
theorem d_law_k30_paid (T : Txt K w mg Z) : Dfn P w K mg base 3 "_law_k30_paid" ["plain", "win", "lose"] (sp_kpaid) := by
  obtain ⟨f, fd, F, hm, hb⟩ := T.f_law_k30_paid
  refine ⟨f, fd, F.ok sc_law_k30_paid (fun vs H Q E h => by first | (obtain ⟨rfl, _⟩ := h; rfl) | (obtain ⟨_, rfl, _⟩ := h; rfl) | (obtain ⟨_, _, rfl, _⟩ := h; rfl) | (obtain ⟨_, _, _, rfl, _⟩ := h; rfl) | (obtain ⟨_, _, _, _, rfl, _⟩ := h; rfl) | (obtain ⟨_, _, _, _, _, rfl, _⟩ := h; rfl) | (obtain ⟨_, _, _, _, _, _, rfl, _⟩ := h; rfl) | (obtain ⟨_, _, _, _, _, _, _, rfl, _⟩ := h; rfl) | (obtain ⟨_, _, _, _, _, _, _, _, rfl, _⟩ := h; rfl) | (obtain ⟨_, _, _, _, _, _, _, _, _, rfl, _⟩ := h; rfl) | (obtain ⟨_, _, _, _, _, _, _, _, _, _, rfl, _⟩ := h; rfl) | (obtain ⟨_, _, _, _, _, _, _, _, _, _, _, rfl, _⟩ := h; rfl) | (obtain ⟨_, _, _, _, _, _, _, _, _, _, _, _, rfl, _⟩ := h; rfl) | (obtain ⟨_, _, _, _, _, _, _, _, _, _, _, _, _, rfl, _⟩ := h; rfl) | (obtain ⟨_, _, _, _, _, _, _, _, _, _, _, _, _, _, rfl, _⟩ := h; rfl) | (obtain ⟨_, _, _, _, _, _, _, _, _, _, _, _, _, _, _, rfl, _⟩ := h; rfl) | (obtain ⟨_, _, _, _, _, _, _, _, _, _, _, _, _, _, _, _, rfl, _⟩ := h; rfl)) (fun cdv A outer s H vs Q E hr h => ?_), hm, F.kp, hb⟩
  obtain ⟨p, wq, lq, L, n, fs, ret, ws, ls, rfl, hp, hw, hl, ok, k⟩ := h
  have hp' := hp
  obtain ⟨fl, hp1, hp2⟩ := hp'
  have l2 := ok.l2
  have l6 := ok.l6
  have n40 := ok.n40
  have hw' := hw
  unfold IL at hw' hp2
  have D_law_e_loads := d_law_e_loads (P := P) (base := base) T
  refine ⟨_, (pss_cons (ps_set (i := 3) sc_law_k30_paid.nd rfl (.inr rfl) (pe_dfn D_law_e_loads (hr.mono (by decide)) (by rfl) (pa_cons (pv 0) pa_nil)))
      (pss_cons (ps_set (i := 4) sc_law_k30_paid.nd rfl (.inl rfl) (pe_lst pa_nil))
      (pss_cons (ps_for PassesOwn.never rfl (pi_range1 (by rfl) T.b_range (pa_cons (pe_op op_uAdd (pe_callB call_uLen (by rfl) T.b_len bt_len (pa_cons (pe_ix ix_seq (pv 0) pe_int (fun _ _ => rfl)) pa_nil)) pe_int) pa_nil)) (pg_name (i := 5) sc_law_k30_paid.nd rfl (.inr rfl))
        (pss_one (ps_expr (pe_bm PySem.F.plainAttrs_list PySem.F.slot_list_append PySem.F.type_list_append mt_append (pv 4) (pa_cons (pe_callB (cr_sum rfl) (by rfl) T.b_sum bt_sum (pa_cons (pe_lc (own := [("a", 6)]) (by rfl) sc_law_k30_paid.nd (pi_range1 (by rfl) T.b_range (pa_cons (pe_callB call_uLen (by rfl) T.b_len bt_len (pa_cons (pv 1) pa_nil)) pa_nil)) (blkOk_by (N := n_law_k30_paid) (sc := defScope st_law_k30_paid) (by decide +kernel)) (fun _ _ _ _ _ => (pg_name (i := 6) sc_law_k30_paid.nd rfl (.inl rfl))) (fun _ _ _ _ _ => pts_nil) (fun _ _ _ _ _ => (pe_op op_uMul (pe_ix (ix_seqK (K := K) rfl) (pe_ix (ix_seqK (K := K) rfl) (pv 3) (pv 6) (fun _ _ => rfl)) (pv 5) (fun _ _ => rfl)) (pe_op (op_uAddK (K := K) rfl) (pe_ix (ix_seqK (K := K) rfl) (pv 1) (pv 6) (fun _ _ => rfl)) (pe_op op_uMul (pe_op op_sub (pe_ix (ix_seqK (K := K) rfl) (pv 0) pe_int (fun _ _ => rfl)) pe_int) (pe_ix (ix_seqK (K := K) rfl) (pv 2) (pv 6) (fun _ _ => rfl))))))) pa_nil)) pa_nil)))))
      (pss_one (ps_ret (pv 4)))))), ?_⟩
  try dsimp only [cxOf, Cx.nox, Cx.wish]
  show (_ : TS) _ [some _, some _, some _, none, none, none, none] _
  o_readsAll
  refine c_eloads hp (by omega) l6 n40 ok.ok fun lo qs H1 flo e1 hlo hql hR => ?_
  have hp11 := e1 _ _ hp1
  have hp21 := e1 _ _ hp2
  o_readsAll
  rename_i fq H2 ffq e2 hfq N2 hN2
  rw [rng_len, show ((n : Int) + 1).toNat = n + 1 by omega]
  refine f_rng (fun b σ' H' => ∃ (x : Option V), σ' = [some (.ref p), some (.ref wq), some (.ref lq), some (.ref lo), some (.ref fq), x, none] ∧ Same H1 H' ∧ IL H' fq b (sv L fs ws ls)) ⟨_, rfl, e2, hfq⟩ ?_ ?_
  · rintro b σ' H3 hb ⟨x, rfl, e3, h3⟩
    rw [Int.zero_add]
    have h3' := h3
    unfold IL at h3'
    have w3 := e3 _ _ (e1 _ _ hw')
    have hsz : (rng b (sv L fs ws ls)).length < sizeLine := by rw [rng_len, sizeLine_eq]; omega
    o_readsAll
    rw [rng_len, Int.toNat_natCast]
    refine l_rngP (fun a => .int (ld L fs a b * pay L ws ls a)) (fun x => rfl) (fun D a H' ha hD e hl' => ?_) fun q4 H4 fq4 e4 hq4 => ?_
    · rw [Int.zero_add]
      have e1' := e1.trans (e3.trans e)
      have hqa := List.getElem?_eq_getElem (l := qs) (i := a) (by omega)
      have hra := ((hR a _ hqa).same e3).same e
      have lo' := e _ _ (e3 _ _ hlo)
      generalize qs[a]'(by omega) = raa at hqa hra
      have hpe := e1' _ _ hp1
      o_readsAll
      refine g_ixL (v := .ref raa) (.of lo') (atI_nat (by rw [List.getElem?_map, hqa]; rfl)) ?_
      o_readsAll
      refine g_ixL hra.sq (atI_nat (rng_at (by omega))) ?_
      o_readsAll
      refine g_ixL (hw.same e1').sq (atI_nat (rng_at ha)) ?_
      o_readsAll
      refine g_ixL (hl.same e1').sq (atI_nat (rng_at ha)) ?_
      o_readsAll
      refine g_mulW (mul_nb (ld_bd (L := L) ok.ok (by omega) l6 a b (by omega)) (pay_bd ok ha) (by decide)) ?_
      exact g_itemP e hl' hD (by rw [sizeLine_eq]; omega) rfl
    · have h34 := e4 _ _ h3'
      o_readsAll
      refine g_sumI (f := fun a => ld L fs a b * pay L ws ls a) (n := n) hq4 ?_
      rw [← sv_eq ok.ok b (by omega)]
      o_readsAll
      refine ⟨_, rfl, Eg.Same.put (e3.trans e4) ffq, ?_⟩
      unfold IL
      rw [upd_same, rng_snoc]
      rfl
  · rintro σ' H3 ⟨x, rfl, e3, h3⟩
    o_readsAll
    exact k fq H3 (e1.free ffq) (e1.trans e3) h3
theorem frl_snoc {H : Hp} {D r : Addr} {qs : List Addr} {N : Nat → Int} {e1 : Int} {xs : List V} {o : HO} (hF : ∀ j q, qs[j]? = some q → FrAt H q (N j) e1) (hr : FrAt H r (N qs.length) e1) (eD : H D = some (.lst xs)) : ∀ j q, (qs ++ [r])[j]? = some q → FrAt (upd H D o) q (N j) e1 := fun j q hq => by
  have put : ∀ {q : Addr} {a b : Int}, FrAt H q a b → FrAt (upd H D o) q a b := fun h => by
    unfold FrAt
    rw [upd_ne (ne_of h eD (fun z => nomatch z))]
    exact h
  by_cases hj : j < qs.length
  · rw [List.getElem?_append_left hj] at hq
    exact put (hF j q hq)
  · rw [List.getElem?_append_right (by omega)] at hq
    have hj0 : j - qs.length = 0 := by
      by_cases h0 : j - qs.length = 0
      · exact h0
      · rw [List.getElem?_eq_none (by simp; omega)] at hq
        cases hq
    rw [hj0] at hq
    cases hq
    rw [show j = qs.length by omega]
    exact put hr
def sp_kclaims : Sp := fun vs H Q _ => ∃ (p sq e : Addr) (e0 e1 L : Int) (n : Nat) (fs : Nat → Int) (ret : Bool) (ws ls : Nat → Int), vs = [.ref p, .ref sq, .ref e] ∧ PlA H p L n fs ret ∧ IL H sq (n + 1) (sv L fs ws ls) ∧ H e = some (.tup [.int e0, .int e1]) ∧ 0 < e1 ∧ e0.natAbs < 2 ^ 3000 ∧ e1.natAbs < 2 ^ 3000 ∧ ZOk L n fs ws ls ∧ ∀ q qs H', H q = none → Same H H' → H' q = some (.lst (qs.map V.ref)) → ClAt H' qs (n + 1) L fs ws ls e0 e1 → Q (.ref q) H'
theorem d_law_k30_claims (T : Txt K w mg Z) : Dfn P w K mg base 3 "_law_k30_claims" ["plain", "sums", "entry"] (sp_kclaims) := by
  obtain ⟨f, fd, F, hm, hb⟩ := T.f_law_k30_claims
  refine ⟨f, fd, F.ok sc_law_k30_claims (fun vs H Q E h => by first | (obtain ⟨rfl, _⟩ := h; rfl) | (obtain ⟨_, rfl, _⟩ := h; rfl) | (obtain ⟨_, _, rfl, _⟩ := h; rfl) | (obtain ⟨_, _, _, rfl, _⟩ := h; rfl) | (obtain ⟨_, _, _, _, rfl, _⟩ := h; rfl) | (obtain ⟨_, _, _, _, _, rfl, _⟩ := h; rfl) | (obtain ⟨_, _, _, _, _, _, rfl, _⟩ := h; rfl) | (obtain ⟨_, _, _, _, _, _, _, rfl, _⟩ := h; rfl) | (obtain ⟨_, _, _, _, _, _, _, _, rfl, _⟩ := h; rfl) | (obtain ⟨_, _, _, _, _, _, _, _, _, rfl, _⟩ := h; rfl) | (obtain ⟨_, _, _, _, _, _, _, _, _, _, rfl, _⟩ := h; rfl) | (obtain ⟨_, _, _, _, _, _, _, _, _, _, _, rfl, _⟩ := h; rfl) | (obtain ⟨_, _, _, _, _, _, _, _, _, _, _, _, rfl, _⟩ := h; rfl) | (obtain ⟨_, _, _, _, _, _, _, _, _, _, _, _, _, rfl, _⟩ := h; rfl) | (obtain ⟨_, _, _, _, _, _, _, _, _, _, _, _, _, _, rfl, _⟩ := h; rfl) | (obtain ⟨_, _, _, _, _, _, _, _, _, _, _, _, _, _, _, rfl, _⟩ := h; rfl) | (obtain ⟨_, _, _, _, _, _, _, _, _, _, _, _, _, _, _, _, rfl, _⟩ := h; rfl)) (fun cdv A outer s H vs Q E hr h => ?_), hm, F.kp, hb⟩
  obtain ⟨p, sq, e, e0, e1, L, n, fs, ret, ws, ls, rfl, hp, hs, he, e10, eb0, eb1, ok, k⟩ := h
  have hs' := hs
  unfold IL at hs'
  have l2 := ok.l2
  have l6 := ok.l6
  have n40 := ok.n40
  have D_law_e_heads := d_law_e_heads (P := P) (base := base) T
  have D_law_e_fraction := d_law_e_fraction (P := P) (base := base) T
  refine ⟨_, (pss_cons (ps_set (i := 3) sc_law_k30_claims.nd rfl (.inr rfl) (pe_dfn D_law_e_heads (hr.mono (by decide)) (by rfl) (pa_cons (pv 0) pa_nil)))
      (pss_one (ps_ret (pe_lc (own := [("b", 4)]) (by rfl) sc_law_k30_claims.nd (pi_range1 (by rfl) T.b_range (pa_cons (pe_callB call_uLen (by rfl) T.b_len bt_len (pa_cons (pv 3) pa_nil)) pa_nil)) (blkOk_by (N := n_law_k30_claims) (sc := defScope st_law_k30_claims) (by decide +kernel)) (fun _ _ _ _ _ => (pg_name (i := 4) sc_law_k30_claims.nd rfl (.inl rfl))) (fun _ _ _ _ _ => pts_nil) (fun _ _ _ _ _ => (pe_dfn D_law_e_fraction (hr.mono (by decide)) (by rfl) (pa_cons (pe_op op_sub (pe_op op_uMul (pe_ix (ix_seqK (K := K) rfl) (pv 3) (pv 4) (fun _ _ => rfl)) (pe_ix (ix_seqK (K := K) rfl) (pv 2) pe_int (fun _ _ => rfl))) (pe_op op_uMul (pe_ix (ix_seqK (K := K) rfl) (pv 1) (pv 4) (fun _ _ => rfl)) (pe_ix (ix_seqK (K := K) rfl) (pv 2) pe_int (fun _ _ => rfl)))) (pa_cons (pe_ix (ix_seqK (K := K) rfl) (pv 2) pe_int (fun _ _ => rfl)) pa_nil)))))))), ?_⟩
  try dsimp only [cxOf, Cx.nox, Cx.wish]
  show (_ : TS) _ [some _, some _, some _, none, none] _
  o_readsAll
  refine c_eheads hp (by omega) l6 n40 ok.ok fun hq H1 fhq e1' hhq => ?_
  have hhq' := hhq
  unfold IL at hhq'
  have he1 := e1' _ _ he
  have hs1 := e1' _ _ hs'
  o_readsAll
  rw [rng_len, Int.toNat_natCast]
  refine l_it walk_range (fun D i acc H' => ∃ qs : List Addr, acc = qs.map V.ref ∧ qs.length = i ∧ Same H1 H' ∧ ∀ j q, qs[j]? = some q → FrAt H' q (hd L fs j * e0 - sv L fs ws ls j * e1) e1) (fun D hD => ⟨[], rfl, rfl, Eg.Same.put (Same.refl _) hD, fun _ _ h => (nomatch h)⟩) (fun D i acc H' hD _ _ pv => trivial) (fun D i x acc Ha Hb hD hi e le pv y => ?_) (fun D acc H' hD e _ pv => ?_)
  · obtain ⟨y1, y2⟩ := y
    subst y1 y2
    obtain ⟨qs, rfl, hql, f3, hF⟩ := pv
    show gName 4 (V.int (0 + (i : Nat))) _ _ _
    rw [Int.zero_add]
    refine ⟨rfl, ?_⟩
    have he3 := f3 _ _ he1
    have hs3 := f3 _ _ hs1
    have hh3 := f3 _ _ hhq'
    have bh := hd_bd (L := L) ok.ok (by omega) l6 i (by omega)
    have bs := sv_bd ok (b := i) (by omega)
    o_readsAll
    refine g_ixL (.of hh3) (atI_nat (rng_at hi)) ?_
    o_readsAll
    refine g_mulW (mul_nb bh eb0 (by decide)) ?_
    o_readsAll
    refine g_ixL (.of hs3) (atI_nat (rng_at hi)) ?_
    o_readsAll
    refine g_mulW (mul_nb bs eb1 (by decide)) ?_
    o_readsAll
    refine c_frac e10 (Nat.lt_of_lt_of_le (nb_diff (Nat.lt_of_lt_of_le (nb_prod bh eb0) (show (2 : Nat) ^ (150 + 3000) ≤ 2 ^ (300 + 3000) from Nat.pow_le_pow_right (by decide) (by decide))) (nb_prod bs eb1)) (Nat.pow_le_pow_right (by decide) (by decide))) (Nat.lt_of_lt_of_le eb1 (Nat.pow_le_pow_right (by decide) (by decide))) fun r Hc fr f4 hr4 => ?_
    have eD := f4 _ _ e
    exact g_item eD (by rw [List.length_map]; exact hql) (by rw [sizeLine_eq]; omega) ⟨qs ++ [r], by rw [List.map_append]; rfl, by rw [List.length_append, hql]; rfl, Eg.Same.put (f3.trans f4) hD, frl_snoc (N := fun j => hd L fs j * e0 - sv L fs ws ls j * e1) (fun j q hq => f4 _ _ (hF j q hq)) (by rw [hql]; exact hr4) eD⟩
  · obtain ⟨qs, rfl, hql, f3, hF⟩ := pv
    exact k D qs H' (e1'.free hD) (e1'.trans f3) e ⟨hql, hF⟩
def sp_kfair : Sp := fun vs H Q _ => ∃ (p sq : Addr) (L : Int) (n : Nat) (fs : Nat → Int) (ret : Bool) (ws ls : Nat → Int), vs = [.ref p, .ref sq] ∧ PlA H p L n fs ret ∧ IL H sq (n + 1) (sv L fs ws ls) ∧ ZOk L n fs ws ls ∧ (opn L n fs ret = 0 → ∀ H', Same H H' → Q .non H') ∧ (0 < opn L n fs ret → ∀ q H', H q = none → Same H H' → H' q = some (.tup [.int (fe0 L n fs ws ls ret), .int (fe1 L n fs ws ls ret)]) → Q (.ref q) H')
theorem d_law_k30_fair (T : Txt K w mg Z) : Dfn P w K mg base 3 "_law_k30_fair" ["plain", "sums"] (sp_kfair) := by
  obtain ⟨f, fd, F, hm, hb⟩ := T.f_law_k30_fair
  refine ⟨f, fd, F.ok sc_law_k30_fair (fun vs H Q E h => by first | (obtain ⟨rfl, _⟩ := h; rfl) | (obtain ⟨_, rfl, _⟩ := h; rfl) | (obtain ⟨_, _, rfl, _⟩ := h; rfl) | (obtain ⟨_, _, _, rfl, _⟩ := h; rfl) | (obtain ⟨_, _, _, _, rfl, _⟩ := h; rfl) | (obtain ⟨_, _, _, _, _, rfl, _⟩ := h; rfl) | (obtain ⟨_, _, _, _, _, _, rfl, _⟩ := h; rfl) | (obtain ⟨_, _, _, _, _, _, _, rfl, _⟩ := h; rfl) | (obtain ⟨_, _, _, _, _, _, _, _, rfl, _⟩ := h; rfl) | (obtain ⟨_, _, _, _, _, _, _, _, _, rfl, _⟩ := h; rfl) | (obtain ⟨_, _, _, _, _, _, _, _, _, _, rfl, _⟩ := h; rfl) | (obtain ⟨_, _, _, _, _, _, _, _, _, _, _, rfl, _⟩ := h; rfl) | (obtain ⟨_, _, _, _, _, _, _, _, _, _, _, _, rfl, _⟩ := h; rfl) | (obtain ⟨_, _, _, _, _, _, _, _, _, _, _, _, _, rfl, _⟩ := h; rfl) | (obtain ⟨_, _, _, _, _, _, _, _, _, _, _, _, _, _, rfl, _⟩ := h; rfl) | (obtain ⟨_, _, _, _, _, _, _, _, _, _, _, _, _, _, _, rfl, _⟩ := h; rfl) | (obtain ⟨_, _, _, _, _, _, _, _, _, _, _, _, _, _, _, _, rfl, _⟩ := h; rfl)) (fun cdv A outer s H vs Q E hr h => ?_), hm, F.kp, hb⟩
  obtain ⟨p, sq, L, n, fs, ret, ws, ls, rfl, hp, hs, ok, k1, k2⟩ := h
  have hp' := hp
  obtain ⟨fl, hp1, hp2⟩ := hp'
  have l2 := ok.l2
  have l6 := ok.l6
  have n40 := ok.n40
  unfold IL at hp2
  have D_law_e_heads := d_law_e_heads (P := P) (base := base) T
  have D_law_e_fraction := d_law_e_fraction (P := P) (base := base) T
  refine ⟨_, (pss_cons (ps_set (i := 2) sc_law_k30_fair.nd rfl (.inl rfl) (pe_dfn D_law_e_heads (hr.mono (by decide)) (by rfl) (pa_cons (pv 0) pa_nil)))
      (pss_cons (ps_set (i := 3) sc_law_k30_fair.nd rfl (.inl rfl) (pe_callB call_uLen (by rfl) T.b_len bt_len (pa_cons (pe_ix ix_seq (pv 0) pe_int (fun _ _ => rfl)) pa_nil)))
      (pss_cons (ps_set (i := 4) sc_law_k30_fair.nd rfl (.inl rfl) (pe_op op_sub (pe_ix ix_seq (pv 2) (pv 3) (fun _ _ => rfl)) (pe_callTy call_uInt (by rfl) T.b_int bt_int (pa_cons (pe_ix ix_seq (pv 0) pe_int (fun _ _ => rfl)) pa_nil))))
      (pss_one (ps_ret (pe_ifExp (pt_cmpR (op_uEq hr.units) (pv 4) pe_int (nomark _)) pe_non (pe_dfn D_law_e_fraction (hr.mono (by decide)) (by rfl) (pa_cons (pe_ix ix_seq (pv 1) (pv 3) (fun _ _ => rfl)) (pa_cons (pv 4) pa_nil))))))))), ?_⟩
  try dsimp only [cxOf, Cx.nox, Cx.wish]
  show (_ : TS) _ [some _, some _, none, none, none] _
  o_readsAll
  refine c_eheads hp (by omega) l6 n40 ok.ok fun hq H1 fhq e1 hhq => ?_
  have hp11 := e1 _ _ hp1
  have hp21 := e1 _ _ hp2
  have hhq' := hhq
  unfold IL at hhq'
  obtain ⟨ob, o0⟩ := opn_bd (ret := ret) ok
  o_readsAll
  rw [rng_len]
  refine g_ixL hhq.sq (atI_nat (rng_at (by omega))) ?_
  o_readsAll
  refine .inl (.inr ⟨ret, rfl, ?_⟩)
  have hs1 := e1 _ _ (show H sq = some (.lst (rng (n + 1) (sv L fs ws ls))) from hs)
  have hop : hd L fs n - (if ret = true then 1 else 0) = opn L n fs ret := rfl
  o_readsAll
  rw [hop]
  refine br (fun hc => ?_) (fun hc => ?_)
  · o_readsAll
    exact k1 hc H1 e1
  · o_readsAll
    refine g_ixL (.of hs1) (atI_nat (rng_at (by omega))) ?_
    o_readsAll
    exact c_frac (by omega) (Nat.lt_of_lt_of_le (sv_bd ok (Nat.le_refl _)) (Nat.pow_le_pow_right (by decide) (by decide))) (Nat.lt_of_lt_of_le ob (Nat.pow_le_pow_right (by decide) (by decide))) fun q H2 fq e2 hq => k2 (by omega) q H2 (e1.free fq) (e1.trans e2) hq
end
end L30

namespace L30
set_option exponentiation.threshold 9000
open SX Ld
section
variable {P : Program} {w : World} {K : PySem.W.Frag} {mg : Str → Option Value} {base : Heap} {Z : Ad}
theorem c_kpaid {p wq lq : Addr} {L : Int} {n : Nat} {fs : Nat → Int} {ret : Bool} {ws ls : Nat → Int} {H : Hp} {Q : VK} {E : XK} (hp : PlA H p L n fs ret) (hw : IL H wq n ws) (hl : IL H lq n ls) (ok : ZOk L n fs ws ls) (k : ∀ q H', H q = none → Same H H' → IL H' q (n + 1) (sv L fs ws ls) → Q (.ref q) H') : sp_kpaid [.ref p, .ref wq, .ref lq] H Q E := ⟨p, wq, lq, L, n, fs, ret, ws, ls, rfl, hp, hw, hl, ok, k⟩
theorem c_kclaims {p sq e : Addr} {e0 e1 L : Int} {n : Nat} {fs : Nat → Int} {ret : Bool} {ws ls : Nat → Int} {H : Hp} {Q : VK} {E : XK} (hp : PlA H p L n fs ret) (hs : IL H sq (n + 1) (sv L fs ws ls)) (he : H e = some (.tup [.int e0, .int e1])) (e10 : 0 < e1) (eb0 : e0.natAbs < 2 ^ 3000) (eb1 : e1.natAbs < 2 ^ 3000) (ok : ZOk L n fs ws ls) (k : ∀ q qs H', H q = none → Same H H' → H' q = some (.lst (qs.map V.ref)) → ClAt H' qs (n + 1) L fs ws ls e0 e1 → Q (.ref q) H') : sp_kclaims [.ref p, .ref sq, .ref e] H Q E := ⟨p, sq, e, e0, e1, L, n, fs, ret, ws, ls, rfl, hp, hs, he, e10, eb0, eb1, ok, k⟩
theorem c_kfair {p sq : Addr} {L : Int} {n : Nat} {fs : Nat → Int} {ret : Bool} {ws ls : Nat → Int} {H : Hp} {Q : VK} {E : XK} (hp : PlA H p L n fs ret) (hs : IL H sq (n + 1) (sv L fs ws ls)) (ok : ZOk L n fs ws ls) (k1 : opn L n fs ret = 0 → ∀ H', Same H H' → Q .non H') (k2 : 0 < opn L n fs ret → ∀ q H', H q = none → Same H H' → H' q = some (.tup [.int (fe0 L n fs ws ls ret), .int (fe1 L n fs ws ls ret)]) → Q (.ref q) H') : sp_kfair [.ref p, .ref sq] H Q E := ⟨p, sq, L, n, fs, ret, ws, ls, rfl, hp, hs, ok, k1, k2⟩
def sp_kruin : Sp := fun vs H Q _ => ∃ (p sq e : Addr) (ip e0 e1 L : Int) (n : Nat) (fs : Nat → Int) (ret : Bool) (ws ls : Nat → Int), vs = [.ref p, .ref sq, .ref e, .int ip] ∧ PlA H p L n fs ret ∧ IL H sq (n + 1) (sv L fs ws ls) ∧ H e = some (.tup [.int e0, .int e1]) ∧ 0 < e1 ∧ 0 ≤ e0 ∧ e0.natAbs < 2 ^ 1000 ∧ e1.natAbs < 2 ^ 1000 ∧ ip.natAbs < 2 ^ 100 ∧ ZOk L n fs ws ls ∧ ((opn L n fs ret = 0 ∨ ¬ (e0 * fe1 L n fs ws ls ret < fe0 L n fs ws ls ret * e1)) → ∀ H', Same H H' → Q .non H') ∧ (0 < opn L n fs ret → e0 * fe1 L n fs ws ls ret < fe0 L n fs ws ls ret * e1 → ∀ H', Same H H' → Q (.int (ruin ip e0 e1 (fe0 L n fs ws ls ret) (fe1 L n fs ws ls ret) (mx (cN L fs ws ls (fe0 L n fs ws ls ret) (fe1 L n fs ws ls ret)) (n + 1)))) H')
theorem d_law_k30_ruin (T : Txt K w mg Z) : Dfn P w K mg base 4 "_law_k30_ruin" ["plain", "sums", "entry", "in_play"] (sp_kruin) := by
  obtain ⟨f, fd, F, hm, hb⟩ := T.f_law_k30_ruin
  refine ⟨f, fd, F.ok sc_law_k30_ruin (fun vs H Q E h => by first | (obtain ⟨rfl, _⟩ := h; rfl) | (obtain ⟨_, rfl, _⟩ := h; rfl) | (obtain ⟨_, _, rfl, _⟩ := h; rfl) | (obtain ⟨_, _, _, rfl, _⟩ := h; rfl) | (obtain ⟨_, _, _, _, rfl, _⟩ := h; rfl) | (obtain ⟨_, _, _, _, _, rfl, _⟩ := h; rfl) | (obtain ⟨_, _, _, _, _, _, rfl, _⟩ := h; rfl) | (obtain ⟨_, _, _, _, _, _, _, rfl, _⟩ := h; rfl) | (obtain ⟨_, _, _, _, _, _, _, _, rfl, _⟩ := h; rfl) | (obtain ⟨_, _, _, _, _, _, _, _, _, rfl, _⟩ := h; rfl) | (obtain ⟨_, _, _, _, _, _, _, _, _, _, rfl, _⟩ := h; rfl) | (obtain ⟨_, _, _, _, _, _, _, _, _, _, _, rfl, _⟩ := h; rfl) | (obtain ⟨_, _, _, _, _, _, _, _, _, _, _, _, rfl, _⟩ := h; rfl) | (obtain ⟨_, _, _, _, _, _, _, _, _, _, _, _, _, rfl, _⟩ := h; rfl) | (obtain ⟨_, _, _, _, _, _, _, _, _, _, _, _, _, _, rfl, _⟩ := h; rfl) | (obtain ⟨_, _, _, _, _, _, _, _, _, _, _, _, _, _, _, rfl, _⟩ := h; rfl) | (obtain ⟨_, _, _, _, _, _, _, _, _, _, _, _, _, _, _, _, rfl, _⟩ := h; rfl)) (fun cdv A outer s H vs Q E hr h => ?_), hm, F.kp, hb⟩
  obtain ⟨p, sq, e, ip, e0, e1, L, n, fs, ret, ws, ls, rfl, hp, hs, he, e10, e00, eb0, eb1, ipb, ok, k1, k2⟩ := h
  have n40 := ok.n40
  have D_law_k30_fair := d_law_k30_fair (P := P) (base := base) T
  have D_law_k30_claims := d_law_k30_claims (P := P) (base := base) T
  refine ⟨_, (pss_cons (ps_set (i := 4) sc_law_k30_ruin.nd rfl (.inl rfl) (pe_dfn D_law_k30_fair (hr.mono (by decide)) (by rfl) (pa_cons (pv 0) (pa_cons (pv 1) pa_nil))))
      (pss_cons (ps_if (PW.pt (pw_or (pt_cmpR op_uIsN (pv 4) pe_non (nomark _)) (pw_or1 (pt_cmpR op_ge (pe_op op_uMul (pe_ix ix_seq (pv 2) pe_int (fun _ _ => rfl)) (pe_ix ix_seq (pv 4) pe_int (fun _ _ => rfl))) (pe_op op_uMul (pe_ix ix_seq (pv 4) pe_int (fun _ _ => rfl)) (pe_ix ix_seq (pv 2) pe_int (fun _ _ => rfl))) (nomark _))))) (pss_one (ps_ret pe_non)) pss_nil)
      (pss_cons (ps_set (i := 5) sc_law_k30_ruin.nd rfl (.inl rfl) (pe_dfn D_law_k30_claims (hr.mono (by decide)) (by rfl) (pa_cons (pv 0) (pa_cons (pv 1) (pa_cons (pv 4) pa_nil)))))
      (pss_cons (ps_set (i := 6) sc_law_k30_ruin.nd rfl (.inl rfl) (pe_ix ix_seq (pv 5) pe_int (fun _ _ => rfl)))
      (pss_cons (ps_for PassesOwn.never rfl (pi_list (pv 5)) (pg_name (i := 7) sc_law_k30_ruin.nd rfl (.inl rfl))
        (pss_one (ps_if (pt_cmpR op_gt (pe_op op_uMul (pe_ix ix_seq (pv 7) pe_int (fun _ _ => rfl)) (pe_ix ix_seq (pv 6) pe_int (fun _ _ => rfl))) (pe_op op_uMul (pe_ix ix_seq (pv 6) pe_int (fun _ _ => rfl)) (pe_ix ix_seq (pv 7) pe_int (fun _ _ => rfl))) (nomark _)) (pss_one (ps_set (i := 6) sc_law_k30_ruin.nd rfl (.inl rfl) (pv 7))) pss_nil)))
      (pss_cons (ps_set (i := 8) sc_law_k30_ruin.nd rfl (.inl rfl) (pe_op op_sub (pe_op op_uMul (pe_ix ix_seq (pv 4) pe_int (fun _ _ => rfl)) (pe_ix ix_seq (pv 2) pe_int (fun _ _ => rfl))) (pe_op op_uMul (pe_ix ix_seq (pv 2) pe_int (fun _ _ => rfl)) (pe_ix ix_seq (pv 4) pe_int (fun _ _ => rfl)))))
      (pss_one (ps_ret (pe_op op_uAdd (pe_op op_uDiv (pe_op op_uMul (pe_op op_uMul (pe_op op_uMul (pv 3) (pe_ix ix_seq (pv 6) pe_int (fun _ _ => rfl))) (pe_ix ix_seq (pv 4) pe_int (fun _ _ => rfl))) (pe_ix ix_seq (pv 2) pe_int (fun _ _ => rfl))) (pe_op op_uMul (pe_ix ix_seq (pv 6) pe_int (fun _ _ => rfl)) (pv 8))) pe_int))))))))), ?_⟩
  try dsimp only [cxOf, Cx.nox, Cx.wish]
  show (_ : TS) _ [some _, some _, some _, some _, none, none, none, none, none] _
  o_readsAll
  refine c_kfair hp hs ok (fun ho H1 f1 => ?_) fun ho fq H1 ffq f1 hfq => ?_
  · o_readsAll
    exact k1 (.inl ho) _ f1
  · obtain ⟨b0, b1, p1⟩ := fe_bd (ret := ret) ok ho
    generalize fe0 L n fs ws ls ret = q0 at *
    generalize fe1 L n fs ws ls ret = q1 at *
    have he1 := f1 _ _ he
    have bb : ∀ {z : Int} {k : Nat}, z.natAbs < 2 ^ k → k ≤ 3000 → z.natAbs < 2 ^ 3000 := fun h hk => Nat.lt_of_lt_of_le h (Nat.pow_le_pow_right (by decide) hk)
    have q0B := bb b0 (by decide)
    have q1B := bb b1 (by decide)
    o_readsAll
    refine g_mulW (mul_nb eb0 b1 (by decide)) ?_
    o_readsAll
    refine g_mulW (mul_nb b0 eb1 (by decide)) ?_
    o_readsAll
    refine br (fun hl => ?_) (fun hl => ?_)
    · o_readsAll
      exact k1 (.inr (by omega)) _ f1
    · o_readsAll
      refine c_kclaims (hp.same f1) (hs.same f1) hfq p1 q0B q1B ok fun cq qs H3 fcq f3 hcq ⟨hql, hcl⟩ => ?_
      have hq0 := List.getElem?_eq_getElem (l := qs) (i := 0) (by omega)
      have hc0 : FrAt H3 (qs[0]'(by omega)) (cN L fs ws ls q0 q1 0) q1 := hcl 0 _ hq0
      generalize qs[0]'(by omega) = m0 at hq0 hc0
      have hN0 : cN L fs ws ls q0 q1 0 = q0 := by
        show 1 * q0 - 0 * q1 = q0
        rw [Int.one_mul, Int.zero_mul, Int.sub_zero]
      have hq0p : 0 < q0 := by
        have h0 : 0 ≤ e0 * q1 := Int.mul_nonneg e00 (by omega)
        by_cases h : 0 < q0
        · exact h
        · have : q0 * e1 ≤ 0 := Int.mul_nonpos_of_nonpos_of_nonneg (by omega) (by omega)
          omega
      o_readsAll
      refine g_ixL (v := .ref m0) (.of hcq) (atI_nat (j := 0) (by rw [List.getElem?_map, hq0]; rfl)) ?_
      o_readsAll
      refine f_lst (xs := qs.map V.ref) (fun i σ' H' => ∃ (mr : Addr) (x : Option V), σ' = [some (.ref p), some (.ref sq), some (.ref e), some (.int ip), some (.ref fq), some (.ref cq), some (.ref mr), x, none] ∧ H' = H3 ∧ FrAt H3 mr (if i = 0 then cN L fs ws ls q0 q1 0 else mx (cN L fs ws ls q0 q1) i) q1) ⟨m0, _, rfl, rfl, by rw [if_pos rfl]; exact hc0⟩ ?_ ?_ ?_
      · rintro i σ' H' hi ⟨mr, x, rfl, rfl, hm⟩
        exact .of hcq
      · rintro i y σ' H' hy ⟨mr, x, rfl, rfl, hm⟩
        rw [List.getElem?_map] at hy
        obtain ⟨c, hc, rfl⟩ := Option.map_eq_some_iff.mp hy
        have hi : i < n + 1 := by have := (List.getElem?_eq_some_iff.mp hc).1; omega
        have hcc : FrAt H' c (cN L fs ws ls q0 q1 i) q1 := hcl i c hc
        have m1 : (if i = 0 then cN L fs ws ls q0 q1 0 else mx (cN L fs ws ls q0 q1) i).natAbs < 2 ^ 500 := by
          split
          · exact cN_bd ok b0 b1 (by omega)
          · exact mx_nb (fun j hj => cN_bd ok b0 b1 (by omega)) (by decide)
        have m2 := cN_bd ok b0 b1 hi
        have hnx : mx (cN L fs ws ls q0 q1) (i + 1) = if (if i = 0 then cN L fs ws ls q0 q1 0 else mx (cN L fs ws ls q0 q1) i) < cN L fs ws ls q0 q1 i then cN L fs ws ls q0 q1 i else (if i = 0 then cN L fs ws ls q0 q1 0 else mx (cN L fs ws ls q0 q1) i) := by
          by_cases h : i = 0
          · subst h
            rw [if_pos rfl, if_neg (Int.lt_irrefl _)]
            show (if (0 : Int) < cN L fs ws ls q0 q1 0 then cN L fs ws ls q0 q1 0 else 0) = _
            rw [if_pos (by rw [hN0]; exact hq0p)]
          · rw [if_neg h]
            rfl
        generalize (if i = 0 then cN L fs ws ls q0 q1 0 else mx (cN L fs ws ls q0 q1) i) = M at *
        unfold FrAt at hm hcc
        o_readsAll
        refine g_mulW (mul_nb (fr_bd p1 m2) (fr2_bd p1 b1) (by decide)) ?_
        o_readsAll
        refine g_mulW (mul_nb (fr_bd p1 m1) (fr2_bd p1 b1) (by decide)) ?_
        o_readsAll
        refine br (fun hb => ?_) (fun hb => ?_)
        · o_readsAll
          exact ⟨c, _, rfl, rfl, by rw [if_neg (Nat.succ_ne_zero i), hnx, if_pos ((fr_less p1).mp hb)]; exact hcc⟩
        · o_readsAll
          exact ⟨mr, _, rfl, rfl, by rw [if_neg (Nat.succ_ne_zero i), hnx, if_neg fun z => hb ((fr_less p1).mpr z)]; exact hm⟩
      · rintro σ' H' ⟨mr, x, rfl, rfl, hm⟩
        rw [List.length_map, hql, if_neg (Nat.succ_ne_zero n)] at hm
        have he3 := f3 _ _ he1
        have hfq3 := f3 _ _ hfq
        have m1 : (mx (cN L fs ws ls q0 q1) (n + 1)).natAbs < 2 ^ 500 := mx_nb (fun j hj => cN_bd ok b0 b1 (by omega)) (by decide)
        have c1 := fr_bd (a := mx (cN L fs ws ls q0 q1) (n + 1)) p1 m1
        have c2 := fr2_bd (a := mx (cN L fs ws ls q0 q1) (n + 1)) p1 b1
        have lb : (q0 * e1 - e0 * q1).natAbs < 2 ^ 1301 := nb_diff (nb_prod b0 eb1) (Nat.lt_of_lt_of_le (nb_prod eb0 b1) (Nat.pow_le_pow_right (by decide) (by decide)))
        unfold FrAt at hm
        o_readsAll
        refine g_mulW (mul_nb b0 eb1 (by decide)) ?_
        o_readsAll
        refine g_mulW (mul_nb eb0 b1 (by decide)) ?_
        o_readsAll
        refine g_mulW (mul_nb ipb c1 (by decide)) ?_
        o_readsAll
        refine g_mulW (mul_nb (nb_prod ipb c1) b1 (by decide)) ?_
        o_readsAll
        refine g_mulW (mul_nb (nb_prod (nb_prod ipb c1) b1) eb1 (by decide)) ?_
        o_readsAll
        refine g_mulW (mul_nb c2 lb (by decide)) ?_
        o_readsAll
        refine g_divW (Int.mul_pos (fr2_pos p1) (by omega)) (nb_prod c2 lb) (by decide) ?_
        o_readsAll
        exact k2 ho (by omega) H' (f1.trans f3)
theorem c_kruin {p sq e : Addr} {ip e0 e1 L : Int} {n : Nat} {fs : Nat → Int} {ret : Bool} {ws ls : Nat → Int} {H : Hp} {Q : VK} {E : XK} (hp : PlA H p L n fs ret) (hs : IL H sq (n + 1) (sv L fs ws ls)) (he : H e = some (.tup [.int e0, .int e1])) (e10 : 0 < e1) (e00 : 0 ≤ e0) (eb0 : e0.natAbs < 2 ^ 1000) (eb1 : e1.natAbs < 2 ^ 1000) (ipb : ip.natAbs < 2 ^ 100) (ok : ZOk L n fs ws ls) (k1 : (opn L n fs ret = 0 ∨ ¬ (e0 * fe1 L n fs ws ls ret < fe0 L n fs ws ls ret * e1)) → ∀ H', Same H H' → Q .non H') (k2 : 0 < opn L n fs ret → e0 * fe1 L n fs ws ls ret < fe0 L n fs ws ls ret * e1 → ∀ H', Same H H' → Q (.int (ruin ip e0 e1 (fe0 L n fs ws ls ret) (fe1 L n fs ws ls ret) (mx (cN L fs ws ls (fe0 L n fs ws ls ret) (fe1 L n fs ws ls ret)) (n + 1)))) H') : sp_kruin [.ref p, .ref sq, .ref e, .int ip] H Q E := ⟨p, sq, e, ip, e0, e1, L, n, fs, ret, ws, ls, rfl, hp, hs, he, e10, e00, eb0, eb1, ipb, ok, k1, k2⟩
end
end L30

namespace L30
set_option exponentiation.threshold 9000
open SX Ld
section
variable {P : Program} {w : World} {K : PySem.W.Frag} {mg : Str → Option Value} {base : Heap} {Z : Ad}
def sp_lsame (C : Addr) : Sp := fun vs H Q _ => ∃ (x y : Addr) (L : Int) (n : Nat) (fs : Nat → Int) (r : Bool), vs = [.ref x, .ref y] ∧ LadAt C H x L n fs r ∧ LadAt C H y L n fs r ∧ ∀ H', Same H H' → Q (.bl true) H'
theorem d_Ladder_same_as (T : Txt K w mg Z) : Mth P w K mg base 2 Z.a_Ladder "same_as" ["self", "other"] (sp_lsame Z.a_Ladder) := by
  obtain ⟨f, fd, F, hm, hb⟩ := T.f_Ladder_same_as
  refine ⟨⟨f, fd, F.ok sc_Ladder_same_as (fun vs H Q E h => by first | (obtain ⟨rfl, _⟩ := h; rfl) | (obtain ⟨_, rfl, _⟩ := h; rfl) | (obtain ⟨_, _, rfl, _⟩ := h; rfl) | (obtain ⟨_, _, _, rfl, _⟩ := h; rfl) | (obtain ⟨_, _, _, _, rfl, _⟩ := h; rfl) | (obtain ⟨_, _, _, _, _, rfl, _⟩ := h; rfl) | (obtain ⟨_, _, _, _, _, _, rfl, _⟩ := h; rfl) | (obtain ⟨_, _, _, _, _, _, _, rfl, _⟩ := h; rfl) | (obtain ⟨_, _, _, _, _, _, _, _, rfl, _⟩ := h; rfl) | (obtain ⟨_, _, _, _, _, _, _, _, _, rfl, _⟩ := h; rfl) | (obtain ⟨_, _, _, _, _, _, _, _, _, _, rfl, _⟩ := h; rfl) | (obtain ⟨_, _, _, _, _, _, _, _, _, _, _, rfl, _⟩ := h; rfl) | (obtain ⟨_, _, _, _, _, _, _, _, _, _, _, _, rfl, _⟩ := h; rfl) | (obtain ⟨_, _, _, _, _, _, _, _, _, _, _, _, _, rfl, _⟩ := h; rfl) | (obtain ⟨_, _, _, _, _, _, _, _, _, _, _, _, _, _, rfl, _⟩ := h; rfl) | (obtain ⟨_, _, _, _, _, _, _, _, _, _, _, _, _, _, _, rfl, _⟩ := h; rfl) | (obtain ⟨_, _, _, _, _, _, _, _, _, _, _, _, _, _, _, _, rfl, _⟩ := h; rfl)) (fun cdv A outer s H vs Q E hr h => ?_), hm, hb⟩, T.l_Ladder⟩
  obtain ⟨x, y, L, n, fs, r, rfl, hx, hy, k⟩ := h
  have hx' := hx
  obtain ⟨ldx, lfl, llt, lhh, lwl, lps, a1, _, _, _, _, _, _⟩ := hx'
  have hy' := hy
  obtain ⟨mdx, mfl, mlt, mhh, mwl, mps, b1, _, _, _, _, _, _⟩ := hy'
  have D_Ladder_falls := d_Ladder_falls (P := P) (base := base) T
  have D_Ladder_lanes := d_Ladder_lanes (P := P) (base := base) T
  have D_Ladder_returns := d_Ladder_returns (P := P) (base := base) T
  refine ⟨_, (pss_cons (ps_if (PW.pt (pw_or (pt_cmpR (op_uNe hr.units) (pe_mth0 D_Ladder_lanes (hr.mono (by decide)) (pv 0)) (pe_mth0 D_Ladder_lanes (hr.mono (by decide)) (pv 1)) (nomark _)) (pw_or1 (pt_cmpR (op_uNe hr.units) (pe_mth0 D_Ladder_returns (hr.mono (by decide)) (pv 0)) (pe_mth0 D_Ladder_returns (hr.mono (by decide)) (pv 1)) (nomark _))))) (pss_one (ps_ret pe_bl)) pss_nil)
      (pss_one (ps_ret (pe_cmpR (op_uEq hr.units) (pe_mth0 D_Ladder_falls (hr.mono (by decide)) (pv 0)) (pe_mth0 D_Ladder_falls (hr.mono (by decide)) (pv 1)) (nomark _))))), ?_⟩
  try dsimp only [cxOf, Cx.nox, Cx.wish]
  show (_ : TS) _ [some _, some _] _
  o_readsAll
  refine c_lnum hx ?_
  o_readsAll
  refine c_lnum hy ?_
  o_readsAll
  refine brF (by rw [decide_eq_true rfl]; rfl) ?_
  o_readsAll
  refine c_lnum hx ?_
  o_readsAll
  refine c_lnum hy ?_
  o_readsAll
  refine g_neB ?_
  o_readsAll
  refine brF (by rw [decide_eq_true rfl]; rfl) ?_
  o_readsAll
  refine c_lfalls hx fun p H1 fp e1 hp => ?_
  have b11 := e1 _ _ b1
  o_readsAll
  refine c_lfalls (hy.same e1) fun q H2 fq e2 hq => ?_
  refine g_eqIL (l := (List.range n).map fs) (m := (List.range n).map fs) (by rw [← rng_ints]; exact (hp.same e2).sq) (by rw [← rng_ints]; exact hq.sq) ?_
  rw [decide_eq_true rfl]
  exact k _ (e1.trans e2)
theorem c_lsame {C x y : Addr} {L : Int} {n : Nat} {fs : Nat → Int} {r : Bool} {H : Hp} {Q : VK} {E : XK} (hx : LadAt C H x L n fs r) (hy : LadAt C H y L n fs r) (k : ∀ H', Same H H' → Q (.bl true) H') : sp_lsame C [.ref x, .ref y] H Q E := ⟨x, y, L, n, fs, r, rfl, hx, hy, k⟩
def sp_ktell (Z : Ad) : Sp := fun vs H Q _ => ∃ (z p wq lq : Addr) (L : Int) (n : Nat) (fs : Nat → Int) (ret : Bool) (ws ls : Nat → Int), vs = [.ref z, .ref p, .ref wq, .ref lq] ∧ PzAt Z.a_Prizes Z.a_Ladder H z L n fs ret ws ls ∧ PlA H p L n fs ret ∧ IL H wq n ws ∧ IL H lq n ls ∧ ZOk L n fs ws ls ∧ ∀ H', Same H H' → Q (.bl true) H'
theorem d_law_k30_tellers (T : Txt K w mg Z) : Dfn P w K mg base 10 "_law_k30_tellers" ["prizes", "plain", "win", "lose"] (sp_ktell Z) := by
  obtain ⟨f, fd, F, hm, hb⟩ := T.f_law_k30_tellers
  refine ⟨f, fd, F.ok sc_law_k30_tellers (fun vs H Q E h => by first | (obtain ⟨rfl, _⟩ := h; rfl) | (obtain ⟨_, rfl, _⟩ := h; rfl) | (obtain ⟨_, _, rfl, _⟩ := h; rfl) | (obtain ⟨_, _, _, rfl, _⟩ := h; rfl) | (obtain ⟨_, _, _, _, rfl, _⟩ := h; rfl) | (obtain ⟨_, _, _, _, _, rfl, _⟩ := h; rfl) | (obtain ⟨_, _, _, _, _, _, rfl, _⟩ := h; rfl) | (obtain ⟨_, _, _, _, _, _, _, rfl, _⟩ := h; rfl) | (obtain ⟨_, _, _, _, _, _, _, _, rfl, _⟩ := h; rfl) | (obtain ⟨_, _, _, _, _, _, _, _, _, rfl, _⟩ := h; rfl) | (obtain ⟨_, _, _, _, _, _, _, _, _, _, rfl, _⟩ := h; rfl) | (obtain ⟨_, _, _, _, _, _, _, _, _, _, _, rfl, _⟩ := h; rfl) | (obtain ⟨_, _, _, _, _, _, _, _, _, _, _, _, rfl, _⟩ := h; rfl) | (obtain ⟨_, _, _, _, _, _, _, _, _, _, _, _, _, rfl, _⟩ := h; rfl) | (obtain ⟨_, _, _, _, _, _, _, _, _, _, _, _, _, _, rfl, _⟩ := h; rfl) | (obtain ⟨_, _, _, _, _, _, _, _, _, _, _, _, _, _, _, rfl, _⟩ := h; rfl) | (obtain ⟨_, _, _, _, _, _, _, _, _, _, _, _, _, _, _, _, rfl, _⟩ := h; rfl)) (fun cdv A outer s H vs Q E hr h => ?_), hm, F.kp, hb⟩
  obtain ⟨z, p, wq, lq, L, n, fs, ret, ws, ls, rfl, hz, hp, hw, hl, ok, k⟩ := h
  have hz' := hz
  obtain ⟨dx, l, wl, ll, h1, h2, h3, h4⟩ := hz'
  have hp' := hp
  obtain ⟨fl, hp1, hp2⟩ := hp'
  have l2 := ok.l2
  have l6 := ok.l6
  have n40 := ok.n40
  have hw' := hw
  unfold IL at hw'
  have D_law_k30_paid := d_law_k30_paid (P := P) (base := base) T
  have D_law_matches := d_law_matches (P := P) (base := base) T
  have D_Ladder_same_as := d_Ladder_same_as (P := P) (base := base) T
  have D_Prizes_fair_entry := d_Prizes_fair_entry (P := P) (base := base) T
  have D_law_k30_fair := d_law_k30_fair (P := P) (base := base) T
  have D_Ladder_init := d_Ladder_init (P := P) (base := base) T
  have D_Prizes_win := d_Prizes_win (P := P) (base := base) T
  have D_Prizes_lose := d_Prizes_lose (P := P) (base := base) T
  have D_Prizes_sums := d_Prizes_sums (P := P) (base := base) T
  have D_Prizes_per_meeting := d_Prizes_per_meeting (P := P) (base := base) T
  have D_Prizes_ladder := d_Prizes_ladder (P := P) (base := base) T
  refine ⟨_, (pss_cons (ps_set (i := 4) sc_law_k30_tellers.nd rfl (.inl rfl) (pe_dfn D_law_k30_paid (hr.mono (by decide)) (by rfl) (pa_cons (pv 1) (pa_cons (pv 2) (pa_cons (pv 3) pa_nil)))))
      (pss_cons (ps_if (PW.pt (pw_or (pt_not (pt_u (pe_dfn (D_law_matches 2) (hr.mono (by decide)) (by rfl) (pa_cons (pe_mth0 D_Prizes_win (hr.mono (by decide)) (pv 0)) (pa_cons (pv 2) pa_nil))))) (pw_or (pt_not (pt_u (pe_dfn (D_law_matches 2) (hr.mono (by decide)) (by rfl) (pa_cons (pe_mth0 D_Prizes_lose (hr.mono (by decide)) (pv 0)) (pa_cons (pv 3) pa_nil))))) (pw_or1 (pt_not (pt_u (pe_dfn (D_law_matches 2) (hr.mono (by decide)) (by rfl) (pa_cons (pe_mth0 D_Prizes_sums (hr.mono (by decide)) (pv 0)) (pa_cons (pv 4) pa_nil))))))))) (pss_one (ps_ret pe_bl)) pss_nil)
      (pss_cons (ps_setLc (i := 5) (own := [("a", 6)]) (by rfl) sc_law_k30_tellers.nd rfl rfl (sw_true rfl rfl rfl (by decide +kernel)) (pi_range1 (by rfl) T.b_range (pa_cons (pe_callB call_uLen (by rfl) T.b_len bt_len (pa_cons (pv 2) pa_nil)) pa_nil)) (blkOk_by (N := n_law_k30_tellers) (sc := defScope st_law_k30_tellers) (by decide +kernel)) (fun _ _ _ _ _ => (pg_name (i := 6) sc_law_k30_tellers.nd rfl (.inl rfl))) (fun _ _ _ _ _ => pts_nil) (fun _ _ _ _ _ => (pe_op (op_uAddK (K := K) rfl) (pe_ix (ix_seqK (K := K) rfl) (pv 2) (pv 6) (fun _ _ => rfl)) (pe_op op_uMul (pe_op op_sub (pe_ix (ix_seqK (K := K) rfl) (pv 1) pe_int (fun _ _ => rfl)) pe_int) (pe_ix (ix_seqK (K := K) rfl) (pv 3) (pv 6) (fun _ _ => rfl))))))
      (pss_cons (ps_if (pt_not (pt_u (pe_dfn (D_law_matches 2) (hr.mono (by decide)) (by rfl) (pa_cons (pe_lc (own := [("a", 6)]) (by rfl) sc_law_k30_tellers.nd (pi_range1 (by rfl) T.b_range (pa_cons (pe_callB call_uLen (by rfl) T.b_len bt_len (pa_cons (pv 2) pa_nil)) pa_nil)) (blkOk_by (N := n_law_k30_tellers) (sc := defScope st_law_k30_tellers) (by decide +kernel)) (fun _ _ _ _ _ => (pg_name (i := 6) sc_law_k30_tellers.nd rfl (.inl rfl))) (fun _ _ _ _ _ => pts_nil) (fun _ _ _ _ _ => (pe_mthS D_Prizes_per_meeting (hr.mono (by decide)) takes0 (pv 0) (pa_cons (pv 6) pa_nil)))) (pa_cons (pv 5) pa_nil))))) (pss_one (ps_ret pe_bl)) pss_nil)
      (pss_cons (ps_if (pt_not (pt_u (pe_dfn (D_law_matches 2) (hr.mono (by decide)) (by rfl) (pa_cons (pe_mth0 D_Prizes_fair_entry (hr.mono (by decide)) (pv 0)) (pa_cons (pe_dfn D_law_k30_fair (hr.mono (by decide)) (by rfl) (pa_cons (pv 1) (pa_cons (pv 4) pa_nil))) pa_nil))))) (pss_one (ps_ret pe_bl)) pss_nil)
      (pss_one (ps_ret (pe_cmpR op_uIsB (pe_mth D_Ladder_same_as (hr.mono (by decide)) (pe_mth0 D_Prizes_ladder (hr.mono (by decide)) (pv 0)) (pa_cons (pe_ini D_Ladder_init (hr.mono (by decide)) (by rfl) (pa_cons (pe_ix ix_seq (pv 1) pe_int (fun _ _ => rfl)) (pa_cons (pe_ix ix_seq (pv 1) pe_int (fun _ _ => rfl)) (pa_cons (pe_ix ix_seq (pv 1) pe_int (fun _ _ => rfl)) pa_nil)))) pa_nil)) pe_bl (nomark _))))))))), ?_⟩
  try dsimp only [cxOf, Cx.nox, Cx.wish]
  show (_ : TS) _ [some _, some _, some _, some _, none, none, none] _
  o_readsAll
  refine c_kpaid hp hw hl ok fun sq H1 fsq e1 hsq => ?_
  have h11 := e1 _ _ h1
  have hll := hl
  unfold IL at hll
  have hsq' := hsq
  unfold IL at hsq'
  o_readsAll
  refine ⟨z, L, n, fs, ret, ws, ls, rfl, hz.same e1, fun q2 H2 fq2 e2 hq2 => ?_⟩
  have e02 := e1.trans e2
  have w2 := e02 _ _ hw'
  o_readsAll
  refine c_mat (alk_il (m := 0) hq2 (hw.same e02) (by omega)) fun H3 e3 => ?_
  have e03 := e02.trans e3
  have h13 := e03 _ _ h1
  o_readsAll
  refine ⟨z, L, n, fs, ret, ws, ls, rfl, hz.same e03, fun q4 H4 fq4 e4 hq4 => ?_⟩
  have e04 := e03.trans e4
  have l4 := e04 _ _ hll
  o_readsAll
  refine c_mat (alk_il (m := 0) hq4 (hl.same e04) (by omega)) fun H5 e5 => ?_
  have e05 := e04.trans e5
  have h15 := e05 _ _ h1
  o_readsAll
  refine c_psums (hz.same e05) ok fun q6 H6 fq6 e6 hq6 => ?_
  have e06 := e05.trans e6
  have e16 := ((((e2.trans e3).trans e4).trans e5).trans e6)
  have s6 := e16 _ _ hsq'
  o_readsAll
  refine c_mat (alk_il (m := 0) hq6 (hsq.same e16) (by omega)) fun H7 e7 => ?_
  have e07 := e06.trans e7
  have w7 := e07 _ _ hw'
  o_readsAll
  rw [rng_len, Int.toNat_natCast]
  refine l_rngP (fun a => .int (pay L ws ls a)) (fun x => rfl) (fun D a H' ha hD e hl' => ?_) fun q8 H8 fq8 e8 hq8 => ?_
  · rw [Int.zero_add]
    have e0e := e07.trans e
    have p1 := e0e _ _ hp1
    o_readsAll
    refine g_ixL (hw.same e0e).sq (atI_nat (rng_at ha)) ?_
    o_readsAll
    refine g_ixL (hl.same e0e).sq (atI_nat (rng_at ha)) ?_
    o_readsAll
    exact g_itemP e hl' hD (by rw [sizeLine_eq]; omega) rfl
  · have hq8' : IL H8 q8 n (pay L ws ls) := hq8
    have e08 := e07.trans e8
    have w8 := e08 _ _ hw'
    have h18 := e08 _ _ h1
    o_readsAll
    rw [rng_len, Int.toNat_natCast]
    refine l_rngP (fun a => .int (pay L ws ls a)) (fun x => rfl) (fun D a H' ha hD e hl' => ?_) fun q9 H9 fq9 e9 hq9 => ?_
    · rw [Int.zero_add]
      have h1e := e _ _ h18
      o_readsAll
      refine c_ppm (hz.same (e08.trans e)) (by omega) (fun i hi => Nat.lt_trans (ok.lb i hi) (Nat.pow_lt_pow_right (by decide) (by decide))) ha ?_
      exact g_itemP e hl' hD (by rw [sizeLine_eq]; omega) rfl
    · have hq9' : IL H9 q9 n (pay L ws ls) := hq9
      have e09 := e08.trans e9
      o_readsAll
      refine c_mat (alk_il (m := 0) hq9' (hq8'.same e9) (by omega)) fun H10 e10 => ?_
      have e010 := e09.trans e10
      have h110 := e010 _ _ h1
      have e110 := e16.trans (e7.trans (e8.trans (e9.trans e10)))
      o_readsAll
      refine c_pfair (hz.same e010) ok (fun ho H11 e11 => ?_) fun ho g1 H11 fg1 e11 hg1 => ?_
      · o_readsAll
        refine c_kfair (hp.same (e010.trans e11)) (hsq.same (e110.trans e11)) ok (fun _ H12 e12 => ?_) fun ho2 _ _ _ _ _ => absurd ho (by omega)
        o_readsAll
        refine c_mat (.inl ⟨rfl, rfl⟩) fun H13 e13 => ?_
        have e0x := ((e010.trans e11).trans e12).trans e13
        have h1x := e0x _ _ h1
        have p1x := e0x _ _ hp1
        have p2x := e0x _ _ (show H fl = some (.lst (rng n fs)) from hp2)
        o_readsAll
        refine ⟨z, L, n, fs, ret, ws, ls, rfl, hz.same e0x, fun lx hlx => ?_⟩
        have hlx' := hlx
        obtain ⟨ldx, lfl, llt, lhh, lwl, lps, a1, _, _, _, _, _, _⟩ := hlx'
        o_readsAll
        refine c_lmake (hp2.same e0x) l2 l6 ok.n0 n40 ok.ok fun ly Hy fly ey hly => ?_
        have a1y := ey _ _ a1
        o_readsAll
        refine c_lsame (hlx.same ey) hly.at fun Hz ez => ?_
        o_readsAll
        exact k Hz ((e0x.trans ey).trans ez)
      · o_readsAll
        refine c_kfair (hp.same (e010.trans e11)) (hsq.same (e110.trans e11)) ok (fun ho2 _ _ => absurd ho (by omega)) fun _ g2 H12 fg2 e12 hg2 => ?_
        o_readsAll
        refine c_mat (alk_tup (m := 0) (e12 _ _ hg1) hg2 (Nat.le_trans (Nat.le_refl 2) (by decide)) (fun v hv => by
          rcases List.mem_cons.mp hv with h | h
          · rw [h]; trivial
          · rw [List.mem_singleton.mp h]; trivial)) fun H13 e13 => ?_
        have e0x := ((e010.trans e11).trans e12).trans e13
        have h1x := e0x _ _ h1
        have p1x := e0x _ _ hp1
        have p2x := e0x _ _ (show H fl = some (.lst (rng n fs)) from hp2)
        o_readsAll
        refine ⟨z, L, n, fs, ret, ws, ls, rfl, hz.same e0x, fun lx hlx => ?_⟩
        have hlx' := hlx
        obtain ⟨ldx, lfl, llt, lhh, lwl, lps, a1, _, _, _, _, _, _⟩ := hlx'
        o_readsAll
        refine c_lmake (hp2.same e0x) l2 l6 ok.n0 n40 ok.ok fun ly Hy fly ey hly => ?_
        have a1y := ey _ _ a1
        o_readsAll
        refine c_lsame (hlx.same ey) hly.at fun Hz ez => ?_
        o_readsAll
        exact k Hz ((e0x.trans ey).trans ez)
theorem c_ktell {z p wq lq : Addr} {L : Int} {n : Nat} {fs : Nat → Int} {ret : Bool} {ws ls : Nat → Int} {H : Hp} {Q : VK} {E : XK} (hz : PzAt Z.a_Prizes Z.a_Ladder H z L n fs ret ws ls) (hp : PlA H p L n fs ret) (hw : IL H wq n ws) (hl : IL H lq n ls) (ok : ZOk L n fs ws ls) (k : ∀ H', Same H H' → Q (.bl true) H') : sp_ktell Z [.ref z, .ref p, .ref wq, .ref lq] H Q E := ⟨z, p, wq, lq, L, n, fs, ret, ws, ls, rfl, hz, hp, hw, hl, ok, k⟩
end
end L30

namespace L30
set_option exponentiation.threshold 2000
open SX Ld
section
variable {P : Program} {w : World} {K : PySem.W.Frag} {mg : Str → Option Value} {base : Heap} {Z : Ad}
theorem ext_of {H H' : Hp} (e : Same H H') : LamX.ExtN H H' := fun b o h _ => e b o h
theorem tabs_offL {T : List (Addr × Str)} {H H' : Hp} {s : Addr} {xs : List V} (t : LamX.Tabs T H) (hs : H s = some (.lst xs)) (o : Off s H H') : LamX.Tabs T H' := fun p hp => by
  obtain ⟨ps, h1, h2, h3⟩ := t p hp
  refine ⟨ps, o _ _ (ne_of h1 hs (fun z => nomatch z)) h1, h2, fun pos cv hc => ?_⟩
  obtain ⟨c, e1, e2⟩ := h3 pos cv hc
  exact ⟨c, e1, o _ _ (ne_of e2 hs (fun z => nomatch z)) e2⟩
theorem tabs_off {T : List (Addr × Str)} {H H' : Hp} {s : Addr} (t : LamX.Tabs T H) (hs : Stk H s) (o : Off s H H') : LamX.Tabs T H' := by
  obtain ⟨x, y, z, hs⟩ := hs
  exact tabs_offL t hs o
theorem Stk.ext {H H' : Hp} {a : Addr} (h : Stk H a) (e : LamX.ExtN H H') : Stk H' a := by obtain ⟨x, y, z, h⟩ := h; exact ⟨x, y, z, e _ _ h (fun _ z => nomatch z)⟩
/-- all but the stock and tables stay -/
def OffN (s : Addr) (H H' : Hp) : Prop := ∀ b u, b ≠ s → H b = some u → (∀ ps, u ≠ .tbl ps) → H' b = some u
theorem OffN.refl (s : Addr) (H : Hp) : OffN s H H := fun _ _ _ h _ => h
theorem OffN.trans {s : Addr} {H H1 H2 : Hp} (a : OffN s H H1) (b : OffN s H1 H2) : OffN s H H2 := fun c u hc h n => b c u hc (a c u hc h n) n
theorem OffN.off {s : Addr} {H H1 H2 : Hp} (a : OffN s H H1) (b : Off s H1 H2) : OffN s H H2 := fun c u hc h n => b c u hc (a c u hc h n)
theorem OffN.ext {s : Addr} {H H1 H2 : Hp} (a : OffN s H H1) (b : LamX.ExtN H1 H2) : OffN s H H2 := fun c u hc h n => b c u (a c u hc h n) n
theorem OffN.same {s : Addr} {H H1 H2 : Hp} (a : OffN s H H1) (b : Same H1 H2) : OffN s H H2 := fun c u hc h n => b c u (a c u hc h n)
theorem OffN.lst {s a : Addr} {H H1 : Hp} {xs : List V} (o : OffN s H H1) (n : s ≠ a) (h : H a = some (.lst xs)) : H1 a = some (.lst xs) := o _ _ n.symm h (fun _ z => nomatch z)
/-- prizes that the stock does not touch -/
def PzS (C CL s : Addr) (H : Hp) (z : Addr) (L : Int) (n : Nat) (fs : Nat → Int) (ret : Bool) (ws ls : Nat → Int) : Prop := ∀ H', OffN s H H' → PzAt C CL H' z L n fs ret ws ls
theorem PzS.at {C CL s : Addr} {H : Hp} {z : Addr} {L : Int} {n : Nat} {fs : Nat → Int} {ret : Bool} {ws ls : Nat → Int} (h : PzS C CL s H z L n fs ret ws ls) : PzAt C CL H z L n fs ret ws ls := h H (OffN.refl _ _)
theorem PzS.off {C CL s : Addr} {H H1 : Hp} {z : Addr} {L : Int} {n : Nat} {fs : Nat → Int} {ret : Bool} {ws ls : Nat → Int} (h : PzS C CL s H z L n fs ret ws ls) (o : OffN s H H1) : PzS C CL s H1 z L n fs ret ws ls := fun H' o' => h H' (o.trans o')
theorem LadFr.offN {C s : Addr} {H0 H H' : Hp} {l : Addr} {L : Int} {n : Nat} {fs : Nat → Int} {ret : Bool} {u : HO} (h : LadFr C H0 H l L n fs ret) (hs : H0 s = some u) (nl : l ≠ s) (o : OffN s H H') : LadFr C H0 H' l L n fs ret := by
  obtain ⟨dx, fl, lt, hl, wl, ps, ⟨a, b, c, d, f, g, i⟩, f1, f2, f3, f4, f5⟩ := h
  have ne : ∀ {x : Addr}, H0 x = none → x ≠ s := fun hx => (ne_of_none hs hx).symm
  exact ⟨dx, fl, lt, hl, wl, ps, ⟨o _ _ nl a (fun _ z => nomatch z), o _ _ (ne f1) b (fun _ z => nomatch z), o _ _ (ne f2) c (fun _ z => nomatch z), d, fun j q hq => o _ _ (ne (f5 q (List.mem_of_getElem? hq))) (f j q hq) (fun _ z => nomatch z), o _ _ (ne f3) g (fun _ z => nomatch z), o _ _ (ne f4) i (fun _ z => nomatch z)⟩, f1, f2, f3, f4, f5⟩
/-- refused by its class -/
theorem ask_ref {tl : XK → Hp → VK → Prop} {C : Addr} {f : Str} {v : V} {H : Hp} (h : ∀ E1 Q1, RaiseI C f v H E1 → tl E1 H Q1) : ∀ E1 Q1, (∀ d H1, Same H H1 → H1 d = some (.xd [(f, v)]) → E1 (.ref C) (some d) H1) → tl E1 H Q1 := fun E1 Q1 k => h E1 Q1 fun d H1 _ e hd => k d H1 e hd
/-- nothing that stays is here -/
def Frn (H : Hp) (b : Addr) : Prop := ∀ u, H b = some u → ∃ ps, u = .tbl ps
theorem OffN.fr {s b : Addr} {H H' : Hp} (o : OffN s H H') (n : s ≠ b) (h : H' b = none) : Frn H b := fun u hu => by
  cases u <;> first | exact ⟨_, rfl⟩ | (have e := o b _ n.symm hu (fun _ z => nomatch z); rw [h] at e; cases e)
theorem OffN.putF {s b : Addr} {H H' : Hp} {x : HO} (o : OffN s H H') (f : Frn H b) : OffN s H (upd H' b x) := fun c u hc h n => by
  by_cases e : c = b
  · subst e
    obtain ⟨ps, hp⟩ := f u h
    exact absurd hp (n ps)
  · rw [upd_ne e]
    exact o c u hc h n
theorem set_map (l : List Int) (j : Nat) (v : Int) : (l.map V.int).set j (.int v) = (l.set j v).map V.int := by
  rw [List.map_set]
theorem tabs_put {T : List (Addr × Str)} {H : Hp} {b : Addr} {xs : List V} {o : HO} (t : LamX.Tabs T H) (hb : H b = some (.lst xs)) : LamX.Tabs T (upd H b o) := tabs_offL t hb ((off_refl _ _).upd)
end
end L30

namespace L30
set_option exponentiation.threshold 9000
open SX Ld
section
variable {P : Program} {w : World} {K : PySem.W.Frag} {mg : Str → Option Value} {base : Heap} {Z : Ad}
def FairV (H : Hp) (L : Int) (n : Nat) (fs : Nat → Int) (ret : Bool) (ws ls : Nat → Int) (fv : V) : Prop := (opn L n fs ret = 0 ∧ fv = .non) ∨ (0 < opn L n fs ret ∧ ∃ q, fv = .ref q ∧ H q = some (.tup [.int (fe0 L n fs ws ls ret), .int (fe1 L n fs ws ls ret)]))
theorem FairV.same {H H' : Hp} {L : Int} {n : Nat} {fs : Nat → Int} {ret : Bool} {ws ls : Nat → Int} {fv : V} (h : FairV H L n fs ret ws ls fv) (e : Same H H') : FairV H' L n fs ret ws ls fv := by
  rcases h with h | ⟨h, q, h1, h2⟩
  · exact .inl h
  · exact .inr ⟨h, q, h1, e _ _ h2⟩
theorem c_kfairV {p sq : Addr} {L : Int} {n : Nat} {fs : Nat → Int} {ret : Bool} {ws ls : Nat → Int} {H : Hp} {Q : VK} {E : XK} (hp : PlA H p L n fs ret) (hs : IL H sq (n + 1) (sv L fs ws ls)) (ok : ZOk L n fs ws ls) (k : ∀ v H', Same H H' → FairV H' L n fs ret ws ls v → Q v H') : sp_kfair [.ref p, .ref sq] H Q E :=
  c_kfair hp hs ok (fun ho H' e => k _ H' e (.inl ⟨ho, rfl⟩)) fun ho q H' _ e hq => k _ H' e (.inr ⟨ho, q, rfl, hq⟩)
theorem nb_add {x y : Int} {m : Nat} (hx : x.natAbs < 2 ^ m) (hy : y.natAbs < 2 ^ m) : (x + y).natAbs < 2 ^ (m + 1) := by
  rw [Nat.pow_succ]
  omega
theorem nb_up {x : Int} {m k : Nat} (hx : x.natAbs < 2 ^ m) (h : m ≤ k) : x.natAbs < 2 ^ k := Nat.lt_of_lt_of_le hx (Nat.pow_le_pow_right (by decide) h)
theorem alk_non {H : Hp} {m : Nat} : Alk H (m + 1) .non .non := .inl ⟨rfl, rfl⟩
theorem alk_int {H : Hp} {m : Nat} {i : Int} : Alk H (m + 1) (.int i) (.int i) := .inr (.inl ⟨i, rfl, rfl⟩)
/-- an entry fee -/
def Ent (H : Hp) (q : Addr) : Prop := ∃ a b : Int, H q = some (.tup [.int a, .int b]) ∧ 0 ≤ a ∧ 0 < b ∧ a.natAbs < 2 ^ 1000 ∧ b.natAbs < 2 ^ 1000
theorem Ent.same {H H' : Hp} {q : Addr} (h : Ent H q) (e : Same H H') : Ent H' q := by
  obtain ⟨a, b, h, r⟩ := h
  exact ⟨a, b, e _ _ h, r⟩
theorem Ent.off {H H' : Hp} {q s : Addr} {xs : List V} (h : Ent H q) (hs : H s = some (.lst xs)) (e : Off s H H') : Ent H' q := by
  obtain ⟨a, b, h, r⟩ := h
  exact ⟨a, b, e _ _ (ne_of h hs (fun z => nomatch z)) h, r⟩
theorem Ent.put {H : Hp} {q s : Addr} {xs : List V} {o : HO} (h : Ent H q) (hs : H s = some (.lst xs)) : Ent (upd H s o) q := h.off hs ((off_refl _ _).upd)
theorem fr1_nn {a b : Int} (ha : 0 ≤ a) (hb : 0 < b) : 0 ≤ fr1 a b := Int.ediv_nonneg ha (by omega)
theorem ent_fr {H : Hp} {q : Addr} {a b : Int} (h : FrAt H q a b) (ha : 0 ≤ a) (hb : 0 < b) (h1 : a.natAbs < 2 ^ 1000) (h2 : b.natAbs < 2 ^ 1000) : Ent H q := ⟨_, _, h, fr1_nn ha hb, fr2_pos hb, fr_bd hb h1, fr2_bd hb h2⟩
theorem alk_cl {H : Hp} {a b : Addr} {qs rs : List Addr} {k : Nat} {L : Int} {fs ws ls : Nat → Int} {e0 e1 : Int} (ha : H a = some (.lst (qs.map V.ref))) (hb : H b = some (.lst (rs.map V.ref))) (h1 : ClAt H qs k L fs ws ls e0 e1) (h2 : ClAt H rs k L fs ws ls e0 e1) (hk : k ≤ 1000) : Alk H 3 (.ref a) (.ref b) := by
  refine .inr (.inr (.inr (.inr (.inr ⟨a, b, _, _, rfl, rfl, ha, hb, by rw [List.length_map, List.length_map, h1.1, h2.1], by rw [List.length_map, h2.1]; omega, fun i u v hu hv => ?_⟩))))
  rw [List.getElem?_map] at hu hv
  obtain ⟨q, hq, rfl⟩ := Option.map_eq_some_iff.mp hu
  obtain ⟨r, hr, rfl⟩ := Option.map_eq_some_iff.mp hv
  exact alk_tup (m := 0) (h1.2 i q hq) (h2.2 i r hr) (Nat.le_trans (Nat.le_refl 2) (by decide)) (fun v hv => by
    rcases List.mem_cons.mp hv with h | h
    · rw [h]; trivial
    · rw [List.mem_singleton.mp h]; trivial)
theorem ClAt.same {H H' : Hp} {qs : List Addr} {m : Nat} {L : Int} {fs ws ls : Nat → Int} {e0 e1 : Int} (h : ClAt H qs m L fs ws ls e0 e1) (e : Same H H') : ClAt H' qs m L fs ws ls e0 e1 := ⟨h.1, fun i q hq => e _ _ (h.2 i q hq)⟩
theorem gv_congr {L : Int} {fs : Nat → Int} {x : Int} {c d : Nat → Int} (ok : OkF fs) {n : Nat} (h : ∀ i, i < n → c i = d i) : ∀ b, b ≤ n → gv L fs x c b = gv L fs x d b := by
  intro b
  induction b using Nat.strongRecOn with
  | _ b ih =>
    intro hb
    cases b with
    | zero => rfl
    | succ m =>
      rw [gv_succ (ok m).2.1, gv_succ (ok m).2.1, ih m (by omega) (by omega), h m (by omega)]
      have : lowV (gv L fs x c) (fs m) = lowV (gv L fs x d) (fs m) := by
        have := ok m
        exact lowV_congr fun i hi => ih i (by omega) (by omega)
      rw [this]
theorem pay_nn {L : Int} {n : Nat} {fs ws ls : Nat → Int} (ok : ZOk L n fs ws ls) {i : Nat} (hi : i < n) : 0 ≤ pay L ws ls i := by
  have h1 := ok.w0 i hi
  have h2 := Int.mul_nonneg (show 0 ≤ L - 1 by have := ok.l2; omega) (ok.v0 i hi)
  unfold pay
  omega
theorem sv_nn {L : Int} {n : Nat} {fs ws ls : Nat → Int} (ok : ZOk L n fs ws ls) {b : Nat} (hb : b ≤ n) : 0 ≤ sv L fs ws ls b := by
  have l2 := ok.l2
  unfold sv
  rw [gv_congr (d := fun i => if i < n then pay L ws ls i else 0) ok.ok (fun i hi => by rw [if_pos hi]) b hb]
  refine (gv_mono ok.ok (by omega) (Int.le_refl 0) (fun i => ?_) b).1
  split
  · exact pay_nn ok (by assumption)
  · exact Int.le_refl 0
/-- claims at the fair entry -/
theorem cN_nn {L : Int} {n : Nat} {fs ws ls : Nat → Int} {ret : Bool} (ok : ZOk L n fs ws ls) (h : 0 < opn L n fs ret) {b : Nat} (hb : b ≤ n) : 0 ≤ cN L fs ws ls (fe0 L n fs ws ls ret) (fe1 L n fs ws ls ret) b := by
  have l2 := ok.l2
  have f := fair_nn (L := L) (n := n) (fs := fs) (ch := pay L ws ls) ok.ok (by omega) (fun i hi => pay_nn ok hi) hb
  have sb := sv_nn ok hb
  obtain ⟨a1, a2⟩ := fr_eq (a := sv L fs ws ls n) h
  have g0 := gcd_pos (a := sv L fs ws ls n) h
  have ho : opn L n fs ret ≤ hd L fs n := by unfold opn; split <;> omega
  have f2 : sv L fs ws ls b * opn L n fs ret ≤ hd L fs b * sv L fs ws ls n := Int.le_trans (Int.mul_le_mul_of_nonneg_left ho sb) f
  unfold cN fe0 fe1
  generalize Nat.gcd (sv L fs ws ls n).natAbs (opn L n fs ret).natAbs = g at *
  generalize fr1 (sv L fs ws ls n) (opn L n fs ret) = x at *
  generalize fr2 (sv L fs ws ls n) (opn L n fs ret) = y at *
  generalize hd L fs b = u at *
  generalize sv L fs ws ls b = v at *
  rw [a1, a2, ← Int.mul_assoc, ← Int.mul_assoc] at f2
  have := Int.le_of_mul_le_mul_right f2 (show (0 : Int) < (g : Int) by omega)
  omega
def sp_kent (Z : Ad) : Sp := fun vs H Q _ => ∃ (st z p wq lq fl : Addr) (L : Int) (n : Nat) (fs : Nat → Int) (ret : Bool) (ws ls : Nat → Int), vs = [.ref st, .ref z, .ref p, .ref wq, .ref lq] ∧ Stk H st ∧ PzS Z.a_Prizes Z.a_Ladder st H z L n fs ret ws ls ∧ H p = some (.lst [.int L, .ref fl, .bl ret]) ∧ IL H fl n fs ∧ IL H wq n ws ∧ IL H lq n ls ∧ st ≠ p ∧ st ≠ fl ∧ st ≠ wq ∧ st ≠ lq ∧ ZOk L n fs ws ls ∧ ∀ H', Stk H' st → Off st H H' → Q (.bl true) H'
theorem d_law_k30_entries (T : Txt K w mg Z) : Dfn P w K mg base 10 "_law_k30_entries" ["stock", "prizes", "plain", "win", "lose"] (sp_kent Z) := by
  obtain ⟨f, fd, F, hm, hb⟩ := T.f_law_k30_entries
  refine ⟨f, fd, F.ok sc_law_k30_entries (fun vs H Q E h => by first | (obtain ⟨rfl, _⟩ := h; rfl) | (obtain ⟨_, rfl, _⟩ := h; rfl) | (obtain ⟨_, _, rfl, _⟩ := h; rfl) | (obtain ⟨_, _, _, rfl, _⟩ := h; rfl) | (obtain ⟨_, _, _, _, rfl, _⟩ := h; rfl) | (obtain ⟨_, _, _, _, _, rfl, _⟩ := h; rfl) | (obtain ⟨_, _, _, _, _, _, rfl, _⟩ := h; rfl) | (obtain ⟨_, _, _, _, _, _, _, rfl, _⟩ := h; rfl) | (obtain ⟨_, _, _, _, _, _, _, _, rfl, _⟩ := h; rfl) | (obtain ⟨_, _, _, _, _, _, _, _, _, rfl, _⟩ := h; rfl) | (obtain ⟨_, _, _, _, _, _, _, _, _, _, rfl, _⟩ := h; rfl) | (obtain ⟨_, _, _, _, _, _, _, _, _, _, _, rfl, _⟩ := h; rfl) | (obtain ⟨_, _, _, _, _, _, _, _, _, _, _, _, rfl, _⟩ := h; rfl) | (obtain ⟨_, _, _, _, _, _, _, _, _, _, _, _, _, rfl, _⟩ := h; rfl) | (obtain ⟨_, _, _, _, _, _, _, _, _, _, _, _, _, _, rfl, _⟩ := h; rfl) | (obtain ⟨_, _, _, _, _, _, _, _, _, _, _, _, _, _, _, rfl, _⟩ := h; rfl) | (obtain ⟨_, _, _, _, _, _, _, _, _, _, _, _, _, _, _, _, rfl, _⟩ := h; rfl)) (fun cdv A outer s H vs Q E hr h => ?_), hm, F.kp, hb⟩
  obtain ⟨st, z, p, wq, lq, fl, L, n, fs, ret, ws, ls, rfl, hs, hz, hp, hf, hw, hl, np, nf, nw, nl, ok, k⟩ := h
  have n40 := ok.n40
  have D_law_k30_paid := d_law_k30_paid (P := P) (base := base) T
  have D_law_k30_fair := d_law_k30_fair (P := P) (base := base) T
  have D_law_e_fraction := d_law_e_fraction (P := P) (base := base) T
  have D_law_draw := d_law_draw (P := P) (base := base) T
  have D_law_matches := d_law_matches (P := P) (base := base) T
  have D_Prizes_claims := d_Prizes_claims (P := P) (base := base) T
  have D_law_k30_claims := d_law_k30_claims (P := P) (base := base) T
  have D_Prizes_ruin_after := d_Prizes_ruin_after (P := P) (base := base) T
  have D_law_k30_ruin := d_law_k30_ruin (P := P) (base := base) T
  refine ⟨_, (pss_cons (ps_set (i := 5) sc_law_k30_entries.nd rfl (.inl rfl) (pe_dfn D_law_k30_paid (hr.mono (by decide)) (by rfl) (pa_cons (pv 2) (pa_cons (pv 3) (pa_cons (pv 4) pa_nil)))))
      (pss_cons (ps_set (i := 6) sc_law_k30_entries.nd rfl (.inl rfl) (pe_dfn D_law_k30_fair (hr.mono (by decide)) (by rfl) (pa_cons (pv 2) (pa_cons (pv 5) pa_nil))))
      (pss_cons (ps_set (i := 7) sc_law_k30_entries.nd rfl (.inl rfl) (pe_lst (pa_cons (pe_dfn D_law_e_fraction (hr.mono (by decide)) (by rfl) (pa_cons (pe_dfn D_law_draw (hr.mono (by decide)) (by rfl) (pa_cons (pv 0) (pa_cons pe_int pa_nil))) (pa_cons (pe_op op_uAdd pe_int (pe_dfn D_law_draw (hr.mono (by decide)) (by rfl) (pa_cons (pv 0) (pa_cons pe_int pa_nil)))) pa_nil))) (pa_cons (pe_tup (pa_cons pe_int (pa_cons pe_int pa_nil))) (pa_cons (pe_tup (pa_cons (pe_dfn D_law_draw (hr.mono (by decide)) (by rfl) (pa_cons (pv 0) (pa_cons (pe_op op_pow pe_int pe_int) pa_nil))) (pa_cons pe_int pa_nil))) pa_nil)))))
      (pss_cons (ps_if (pt_cmpR op_uNotN (pv 6) pe_non (nomark _)) (pss_cons (ps_expr (pe_bm PySem.F.plainAttrs_list PySem.F.slot_list_append PySem.F.type_list_append mt_append (pv 7) (pa_cons (pv 6) pa_nil)))
      (pss_cons (ps_expr (pe_bm PySem.F.plainAttrs_list PySem.F.slot_list_append PySem.F.type_list_append mt_append (pv 7) (pa_cons (pe_dfn D_law_e_fraction (hr.mono (by decide)) (by rfl) (pa_cons (pe_op op_uAdd (pe_op op_uMul (pe_ix ix_seq (pv 6) pe_int (fun _ _ => rfl)) pe_int) pe_int) (pa_cons (pe_op op_uMul (pe_ix ix_seq (pv 6) pe_int (fun _ _ => rfl)) pe_int) pa_nil))) pa_nil)))
      (pss_cons (ps_expr (pe_bm PySem.F.plainAttrs_list PySem.F.slot_list_append PySem.F.type_list_append mt_append (pv 7) (pa_cons (pe_dfn D_law_e_fraction (hr.mono (by decide)) (by rfl) (pa_cons (pe_callB (call_uMax2 rfl) (by rfl) T.b_max bt_max (pa_cons pe_int (pa_cons (pe_op op_sub (pe_op op_uMul (pe_ix ix_seq (pv 6) pe_int (fun _ _ => rfl)) pe_int) pe_int) pa_nil))) (pa_cons (pe_op op_uMul (pe_ix ix_seq (pv 6) pe_int (fun _ _ => rfl)) pe_int) pa_nil))) pa_nil)))
      (pss_one (ps_if (pt_cmpR op_lt (pe_callB (cr_min rfl) (by rfl) T.b_min bt_min (pa_cons (pe_lc (own := [("claim", 10)]) (by rfl) sc_law_k30_entries.nd (pi_list (pe_mth D_Prizes_claims (hr.mono (by decide)) (pv 1) (pa_cons (pv 6) pa_nil))) (blkOk_by (N := n_law_k30_entries) (sc := defScope st_law_k30_entries) (by decide +kernel)) (fun _ _ _ _ _ => (pg_name (i := 10) sc_law_k30_entries.nd rfl (.inl rfl))) (fun _ _ _ _ _ => pts_nil) (fun _ _ _ _ _ => (pe_ix (ix_seqK (K := K) rfl) (pv 10) pe_int (fun _ _ => rfl)))) pa_nil)) pe_int (nomark _)) (pss_one (ps_ret pe_bl)) pss_nil))))) pss_nil)
      (pss_cons (ps_for PassesOwn.never rfl (pi_list (pv 7)) (pg_name (i := 8) sc_law_k30_entries.nd rfl (.inl rfl))
        (pss_cons (ps_if (pt_not (pt_u (pe_dfn (D_law_matches 3) (hr.mono (by decide)) (by rfl) (pa_cons (pe_mth D_Prizes_claims (hr.mono (by decide)) (pv 1) (pa_cons (pv 8) pa_nil)) (pa_cons (pe_dfn D_law_k30_claims (hr.mono (by decide)) (by rfl) (pa_cons (pv 2) (pa_cons (pv 5) (pa_cons (pv 8) pa_nil)))) pa_nil))))) (pss_one (ps_ret pe_bl)) pss_nil)
      (pss_one (ps_for PassesOwn.never rfl (pi_list (pe_lst (pa_cons pe_int (pa_cons pe_int (pa_cons (pe_dfn D_law_draw (hr.mono (by decide)) (by rfl) (pa_cons (pv 0) (pa_cons pe_int pa_nil))) (pa_cons (pe_dfn D_law_draw (hr.mono (by decide)) (by rfl) (pa_cons (pv 0) (pa_cons (pe_op op_pow pe_int pe_int) pa_nil))) pa_nil)))))) (pg_name (i := 9) sc_law_k30_entries.nd rfl (.inl rfl))
        (pss_one (ps_if (pt_not (pt_u (pe_dfn (D_law_matches 3) (hr.mono (by decide)) (by rfl) (pa_cons (pe_mth D_Prizes_ruin_after (hr.mono (by decide)) (pv 1) (pa_cons (pv 8) (pa_cons (pv 9) pa_nil))) (pa_cons (pe_dfn D_law_k30_ruin (hr.mono (by decide)) (by rfl) (pa_cons (pv 2) (pa_cons (pv 5) (pa_cons (pv 8) (pa_cons (pv 9) pa_nil))))) pa_nil))))) (pss_one (ps_ret pe_bl)) pss_nil))))))
      (pss_one (ps_ret pe_bl))))))), ?_⟩
  try dsimp only [cxOf, Cx.nox, Cx.wish]
  show (_ : TS) _ [some _, some _, some _, some _, some _, none, none, none, none, none, none] _
  o_readsAll
  refine c_kpaid (ret := ret) ⟨fl, hp, hf⟩ hw hl ok fun sq H1 fsq e1 hsq => ?_
  o_readsAll
  refine c_kfairV (ret := ret) ⟨fl, e1 _ _ hp, hf.same e1⟩ hsq ok fun fv H2 e2 hfv => ?_
  have s2 := (hs.same e1).same e2
  o_readsAll
  refine c_draw (by decide) (by decide) s2 fun d1 H3 d10 d11 s3 o3 => ?_
  o_readsAll
  refine c_draw (by decide) (by decide) s3 fun d2 H4 d20 d21 s4 o4 => ?_
  o_readsAll
  refine c_frac (by omega) (by omega) (by omega) fun t1 H5 ft1 e5 ht1 => ?_
  o_readsAll
  rename_i t2 H6 ft2 e6 ht2
  have s6 := (s4.same e5).same e6
  have en1 : Ent H5 t1 := ent_fr ht1 d10 (by omega) (by omega) (by omega)
  refine c_draw (by decide) (by decide) s6 fun d3 H7 d30 d31 s7 o7 => ?_
  have n2 : t2 ≠ st := ((s4.same e5).ne ft2).symm
  have n1 : t1 ≠ st := (s4.ne ft1).symm
  have ht17 := o7 _ _ n1 (e6 _ _ ht1)
  have ht27 := o7 _ _ n2 ht2
  o_readsAll
  rename_i t3 H8 ft3 e8 ht3 en H9 fen e9 hen N9 hN9
  have s9 := (s7.same e8).same e9
  have nen : st ≠ en := (s7.same e8).ne fen
  have x1 : Ent H9 t1 := ent_fr (e9 _ _ (e8 _ _ ht17)) d10 (by omega) (by omega) (by omega)
  have x2 : Ent H9 t2 := ⟨_, _, e9 _ _ (e8 _ _ ht27), by decide, by decide, by decide, by decide⟩
  have x3 : Ent H9 t3 := ⟨_, _, e9 _ _ ht3, d30, by decide, by
    have h : (10 : Int) ^ Int.toNat 30 < 2 ^ 1000 := by decide
    have h2 : (2 : Int) ^ 1000 = ((2 ^ 1000 : Nat) : Int) := by decide
    generalize (2 : Nat) ^ 1000 = X at *
    omega, by decide⟩
  have e02 : Same H H2 := e1.trans e2
  have o09 : Off st H H9 := ((((((Off.trans (off_of e02) o3).trans o4).same e5).same e6).trans o7).same e8).same e9
  have hfv9 : FairV H9 L n fs ret ws ls fv := by
    rcases hfv with h | ⟨h, q, h1, h2⟩
    · exact .inl h
    · refine .inr ⟨h, q, h1, e9 _ _ (e8 _ _ (o7 _ _ ?_ (e6 _ _ (e5 _ _ (o4 _ _ ?_ (o3 _ _ ?_ h2))))))⟩ <;> exact ne_of h2 s2.choose_spec.choose_spec.choose_spec (fun z => nomatch z)
  have hsq9 : IL H9 sq (n + 1) (sv L fs ws ls) := by
    have nq : sq ≠ st := (hs.ne fsq).symm
    have h2 := hsq.same e2
    have h4 := o4 _ _ nq (o3 _ _ nq h2)
    exact e9 _ _ (e8 _ _ (o7 _ _ nq (e6 _ _ (e5 _ _ h4))))
  have fen0 : H en = none := by
    cases hh : H en with
    | none => rfl
    | some u =>
      have := (((((Off.trans (off_of e02) o3).trans o4).same e5).same e6).trans o7).same e8 en u nen.symm hh
      rw [fen] at this
      cases this
  clear hsq hfv ht1 ht17 ht27 ht2 ht3 en1 fen e9 e8 o7 e6 e5 o4 o3 e2
  refine ⟨rfl, ?_⟩
  o_readsAll
  refine jnS (fun σ' H' => ∃ es : List Addr, σ' = [some (.ref st), some (.ref z), some (.ref p), some (.ref wq), some (.ref lq), some (.ref sq), some fv, some (.ref en), none, none, none] ∧ Stk H' st ∧ Off st H H' ∧ IL H' sq (n + 1) (sv L fs ws ls) ∧ H' en = some (.lst (es.map V.ref)) ∧ es.length ≤ 6 ∧ ∀ q ∈ es, Ent H' q) ?_ fun N hN => brn (fun h => ?_) (fun h => ?_)
  · rintro σ' H10 ⟨es, rfl, s10, o10, hsq10, hen10, esl, hes⟩
    o_readsAll
    have nq : st ≠ sq := hs.ne fsq
    have z10 := hz.off ((OffN.refl _ _).off o10)
    have hp10 := o10 _ _ np.symm hp
    have hf10 : IL H10 fl n fs := o10 _ _ nf.symm hf
    obtain ⟨u0, u1, u2, hst10⟩ := s10
    have s10 : Stk H10 st := ⟨u0, u1, u2, hst10⟩
    refine f_lst (xs := es.map V.ref) (fun i σ' H' => ∃ x8 x9 : Option V, σ' = [some (.ref st), some (.ref z), some (.ref p), some (.ref wq), some (.ref lq), some (.ref sq), some fv, some (.ref en), x8, x9, none] ∧ Stk H' st ∧ Off st H10 H') ⟨_, _, rfl, s10, off_refl _ _⟩ ?_ ?_ ?_
    · rintro i σ' H' hi ⟨x8, x9, rfl, s1, o1⟩
      exact .of (o1 _ _ nen.symm hen10)
    · rintro i y σ' H11 hy ⟨x8, x9, rfl, s11, o11⟩
      rw [List.getElem?_map] at hy
      obtain ⟨q, hq, rfl⟩ := Option.map_eq_some_iff.mp hy
      obtain ⟨a, b, hqt, a0, b0, ab, bb⟩ := (hes q (List.mem_of_getElem? hq)).off hst10 o11
      have z11 := (z10.off ((OffN.refl _ _).off o11)).at
      have hp11 := o11 _ _ np.symm hp10
      have hf11 : IL H11 fl n fs := o11 _ _ nf.symm hf10
      have hsq11 : IL H11 sq (n + 1) (sv L fs ws ls) := o11 _ _ nq.symm hsq10
      have z11' := z11
      obtain ⟨dx, l, wl, ll, i1, _, _, _⟩ := z11'
      o_readsAll
      refine c_pclaims hqt b0 (nb_up ab (by decide)) (nb_up bb (by decide)) z11 ok fun cq qs H12 fcq e12 hcq hcl => ?_
      o_readsAll
      refine c_kclaims ⟨fl, e12 _ _ hp11, hf11.same e12⟩ (hsq11.same e12) (e12 _ _ hqt) b0 (nb_up ab (by decide)) (nb_up bb (by decide)) ok fun cq2 qs2 H13 fcq2 e13 hcq2 hcl2 => ?_
      o_readsAll
      refine c_mat (alk_cl (e13 _ _ hcq) hcq2 (hcl.same e13) hcl2 (by omega)) fun H14 e14 => ?_
      have e1114 : Same H11 H14 := (e12.trans e13).trans e14
      have s14 := s11.same e1114
      clear hcq hcl hcq2 hcl2 e12 e13 e14 i1
      o_readsAll
      refine c_draw (by decide) (by decide) s14 fun r1 H15 r10 r11 s15 o15 => ?_
      o_readsAll
      refine c_draw (by decide) (by decide) s15 fun r2 H16 r20 r21 s16 o16 => ?_
      o_readsAll
      rename_i ipl H17 fipl e17 hipl
      have o17 : Off st H11 H17 := (((off_of e1114).trans o15).trans o16).same e17
      have s17 := s16.same e17
      have z17 := ((z10.off ((OffN.refl _ _).off o11)).off ((OffN.refl _ _).off o17)).at
      have hp17 := o17 _ _ np.symm hp11
      have hf17 : IL H17 fl n fs := o17 _ _ nf.symm hf11
      have hsq17 : IL H17 sq (n + 1) (sv L fs ws ls) := o17 _ _ nq.symm hsq11
      have hq17 := o17 _ _ (ne_of hqt (s11.choose_spec.choose_spec.choose_spec) (fun z => nomatch z)) hqt
      clear e17 o16 o15 e1114 hqt hp11 hf11 hsq11 z11 fipl
      refine f_lst (xs := [.int 0, .int 1, .int r1, .int r2]) (fun j σ' H' => ∃ x9 : Option V, σ' = [some (.ref st), some (.ref z), some (.ref p), some (.ref wq), some (.ref lq), some (.ref sq), some fv, some (.ref en), some (.ref q), x9, none] ∧ Same H17 H') ⟨_, rfl, Same.refl _⟩ ?_ ?_ ?_
      · rintro j σ' H' hj ⟨x9, rfl, e1⟩
        exact .of (e1 _ _ hipl)
      · rintro j y σ' H18 hy ⟨x9, rfl, e18⟩
        obtain ⟨ip, rfl, hip⟩ : ∃ ip : Int, y = .int ip ∧ ip.natAbs < 2 ^ 100 := by
          have r2b : r2.natAbs < 2 ^ 100 := by
            have h : (10 : Int) ^ Int.toNat 9 < 2 ^ 100 := by decide
            have h2 : (2 : Int) ^ 100 = ((2 ^ 100 : Nat) : Int) := by decide
            generalize (2 : Nat) ^ 100 = X at *
            omega
          match j, hy with
          | 0, hy => cases hy; exact ⟨_, rfl, by decide⟩
          | 1, hy => cases hy; exact ⟨_, rfl, by decide⟩
          | 2, hy => cases hy; exact ⟨_, rfl, Nat.lt_of_le_of_lt (show r1.natAbs ≤ 30 by omega) (by decide)⟩
          | 3, hy => cases hy; exact ⟨_, rfl, r2b⟩
          | j + 4, hy => exact absurd hy (by simp)
        have z18 := z17.same e18
        have z18' := z18
        obtain ⟨dx, l, wl, ll, i1, _, _, _⟩ := z18'
        have hp18 := e18 _ _ hp17
        have hf18 := hf17.same e18
        have hsq18 := hsq17.same e18
        have hq18 := e18 _ _ hq17
        o_readsAll
        by_cases hc : 0 < opn L n fs ret ∧ a * fe1 L n fs ws ls ret < fe0 L n fs ws ls ret * b
        · obtain ⟨hc1, hc2⟩ := hc
          refine ⟨z, q, ip, a, b, L, n, fs, ret, ws, ls, rfl, hq18, b0, ab, bb, hip, z18, ok, fun h => ?_, fun _ _ H19 e19 => ?_⟩
          · exact absurd h (by omega)
          · o_readsAll
            refine c_kruin ⟨fl, e19 _ _ hp18, hf18.same e19⟩ (hsq18.same e19) (e19 _ _ hq18) b0 a0 ab bb hip ok (fun h => absurd h (by omega)) fun _ _ H20 e20 => ?_
            o_readsAll
            refine c_mat alk_int fun H21 e21 => ?_
            o_readsAll
            exact ⟨_, rfl, ((e18.trans e19).trans e20).trans e21⟩
        · have hc' : opn L n fs ret = 0 ∨ ¬ (a * fe1 L n fs ws ls ret < fe0 L n fs ws ls ret * b) := by
            have := (opn_bd (ret := ret) ok).2
            omega
          refine ⟨z, q, ip, a, b, L, n, fs, ret, ws, ls, rfl, hq18, b0, ab, bb, hip, z18, ok, fun _ H19 e19 => ?_, fun h1 h2 => absurd ⟨h1, h2⟩ hc⟩
          o_readsAll
          refine c_kruin ⟨fl, e19 _ _ hp18, hf18.same e19⟩ (hsq18.same e19) (e19 _ _ hq18) b0 a0 ab bb hip ok (fun _ H20 e20 => ?_) fun h1 h2 => absurd ⟨h1, h2⟩ hc
          o_readsAll
          refine c_mat alk_non fun H21 e21 => ?_
          o_readsAll
          exact ⟨_, rfl, ((e18.trans e19).trans e20).trans e21⟩
      · rintro σ' H18 ⟨x9, rfl, e18⟩
        exact ⟨_, _, rfl, s17.same e18, (o11.trans o17).same e18⟩
    · rintro σ' H11 ⟨x8, x9, rfl, s11, o11⟩
      o_readsAll
      exact k H11 s11 (o10.trans o11)
  · rcases hfv9 with ⟨_, h2⟩ | ⟨ho, fq, rfl, hfq⟩
    · exact absurd h2 h
    clear h
    obtain ⟨b0, b1, p1⟩ := fe_bd (ret := ret) ok ho
    have hn := fun b hb => cN_nn (ret := ret) ok ho (b := b) hb
    have f00 : 0 ≤ fe0 L n fs ws ls ret := fr1_nn (sv_nn ok (Nat.le_refl _)) ho
    generalize fe0 L n fs ws ls ret = q0 at *
    generalize fe1 L n fs ws ls ret = q1 at *
    have nfe : fq ≠ en := ne_of hfq hen (fun z => nomatch z)
    have z9 := (hz.off ((OffN.refl _ _).off o09)).at
    obtain ⟨dx, l, wl, ll, i1, _, _, _⟩ := z9
    have nsq : sq ≠ en := by
      intro hh
      subst hh
      unfold IL at hsq9
      rw [hen] at hsq9
      have := congrArg (fun o => match o with | some (.lst (x :: _)) => x | _ => V.non) hsq9
      rw [show rng (n + 1) (sv L fs ws ls) = .int (sv L fs ws ls 0) :: ((List.range n).map Nat.succ).map (fun i => V.int (sv L fs ws ls i)) by unfold rng; rw [List.range_succ_eq_map]; rfl] at this
      cases this
    have m0 : (q0 * 3 + 1).natAbs < 2 ^ 303 := nb_add (nb_prod b0 (show (3 : Int).natAbs < 2 ^ 2 by decide)) (by decide)
    have m1 : (q1 * 3).natAbs < 2 ^ 153 := nb_prod b1 (show (3 : Int).natAbs < 2 ^ 2 by decide)
    have m2 : (q0 * 5 - 1).natAbs < 2 ^ 304 := nb_diff (nb_prod b0 (show (5 : Int).natAbs < 2 ^ 3 by decide)) (by decide)
    have m3 : (q1 * 5).natAbs < 2 ^ 154 := nb_prod b1 (show (5 : Int).natAbs < 2 ^ 3 by decide)
    o_readsAll
    refine c_frac (by omega) (nb_up m0 (by decide)) (nb_up m1 (by decide)) fun t4 H10 ft4 e10 ht4 => ?_
    have o10 : Off st H H10 := (Off.putN o09 fen0).same e10
    have hen10 : H10 en = some (.lst [V.ref t1, V.ref t2, V.ref t3, V.ref fq]) := e10 _ _ upd_same
    have hfq10 : H10 fq = some (.tup [.int q0, .int q1]) := e10 _ _ (by rw [upd_ne nfe]; exact hfq)
    have hsq10 : IL H10 sq (n + 1) (sv L fs ws ls) := e10 _ _ (by rw [upd_ne nsq]; exact hsq9)
    have i10 := o10 _ _ (show z ≠ st from ne_of i1 s9.choose_spec.choose_spec.choose_spec (fun z => nomatch z)) hz.at.choose_spec.choose_spec.choose_spec.choose_spec.1
    have X : ∀ q ∈ [t1, t2, t3, fq, t4], Ent H10 q := fun q hq => by
      simp only [List.mem_cons, List.not_mem_nil, or_false] at hq
      rcases hq with rfl | rfl | rfl | rfl | rfl
      · exact (x1.put hen).same e10
      · exact (x2.put hen).same e10
      · exact (x3.put hen).same e10
      · exact ⟨_, _, hfq10, f00, p1, nb_up b0 (by decide), nb_up b1 (by decide)⟩
      · exact ent_fr ht4 (by omega) (by omega) (nb_up m0 (by decide)) (nb_up m1 (by decide))
    have s10 : Stk H10 st := (s9.put nen).same e10
    clear ht4 x1 x2 x3 hfq hen e10
    o_readsAll
    have m2' : (if q0 * 5 - 1 > 0 then q0 * 5 - 1 else 0).natAbs < 2 ^ 304 := by
      split
      · exact m2
      · decide
    have m20 : 0 ≤ (if q0 * 5 - 1 > 0 then q0 * 5 - 1 else 0) := by split <;> omega
    generalize (if q0 * 5 - 1 > 0 then q0 * 5 - 1 else 0) = q5 at *
    refine c_frac (by omega) (nb_up m2' (by decide)) (nb_up m3 (by decide)) fun t5 H11 ft5 e11 ht5 => ?_
    have o11 : Off st H H11 := (Off.putN o10 fen0).same e11
    have hen11 : H11 en = some (.lst [V.ref t1, V.ref t2, V.ref t3, V.ref fq, V.ref t4]) := e11 _ _ upd_same
    have hfq11 : H11 fq = some (.tup [.int q0, .int q1]) := e11 _ _ (by rw [upd_ne nfe]; exact hfq10)
    have hsq11 : IL H11 sq (n + 1) (sv L fs ws ls) := e11 _ _ (by rw [upd_ne nsq]; exact hsq10)
    have X11 : ∀ q ∈ [t1, t2, t3, fq, t4, t5], Ent H11 q := fun q hq => by
      by_cases h5 : q = t5
      · rw [h5]
        exact ent_fr ht5 m20 (by omega) (nb_up m2' (by decide)) (nb_up m3 (by decide))
      · refine ((X q ?_).put hen10).same e11
        simp only [List.mem_cons, List.not_mem_nil, or_false] at hq ⊢
        rcases hq with h | h | h | h | h | h
        · exact .inl h
        · exact .inr (.inl h)
        · exact .inr (.inr (.inl h))
        · exact .inr (.inr (.inr (.inl h)))
        · exact .inr (.inr (.inr (.inr h)))
        · exact absurd h h5
    have s11 : Stk H11 st := (s10.put nen).same e11
    have nzs : z ≠ st := by
      obtain ⟨a1, a2, a3, a4, a5, _⟩ := hz.at
      exact ne_of a5 hs.choose_spec.choose_spec.choose_spec (fun z => nomatch z)
    clear X ht5 hen10 e11 hfq10 hsq10 s10 i10
    obtain ⟨dx', l', wl', ll', i0, _, _, _⟩ := hz.at
    have i11 := o11 _ _ nzs i0
    o_readsAll
    have o12 : Off st H (upd H11 en (.lst [V.ref t1, V.ref t2, V.ref t3, V.ref fq, V.ref t4, V.ref t5])) := Off.putN o11 fen0
    have hfq12 : (upd H11 en (.lst [V.ref t1, V.ref t2, V.ref t3, V.ref fq, V.ref t4, V.ref t5])) fq = some (.tup [.int q0, .int q1]) := by rw [upd_ne nfe]; exact hfq11
    have hsq12 : IL (upd H11 en (.lst [V.ref t1, V.ref t2, V.ref t3, V.ref fq, V.ref t4, V.ref t5])) sq (n + 1) (sv L fs ws ls) := by unfold IL; rw [upd_ne nsq]; exact hsq11
    have hen12 : (upd H11 en (.lst [V.ref t1, V.ref t2, V.ref t3, V.ref fq, V.ref t4, V.ref t5])) en = some (.lst ([t1, t2, t3, fq, t4, t5].map V.ref)) := upd_same
    have X12 : ∀ q ∈ [t1, t2, t3, fq, t4, t5], Ent (upd H11 en (.lst [V.ref t1, V.ref t2, V.ref t3, V.ref fq, V.ref t4, V.ref t5])) q := fun q hq => (X11 q hq).put hen11
    have s12 : Stk (upd H11 en (.lst [V.ref t1, V.ref t2, V.ref t3, V.ref fq, V.ref t4, V.ref t5])) st := s11.put nen
    show sp_pclaims _ _ _ (upd H11 en (.lst [V.ref t1, V.ref t2, V.ref t3, V.ref fq, V.ref t4, V.ref t5])) _ _
    generalize upd H11 en (.lst [V.ref t1, V.ref t2, V.ref t3, V.ref fq, V.ref t4, V.ref t5]) = H12 at *
    refine c_pclaims hfq12 p1 (nb_up b0 (by decide)) (nb_up b1 (by decide)) (hz.off ((OffN.refl _ _).off o12)).at ok fun cq qs H13 fcq e13 hcq hcl => ?_
    o_readsAll
    refine l_lstP (xs := qs.map V.ref) (fun i => .int (fr1 (cN L fs ws ls q0 q1 i) q1)) (.of hcq) (fun x => rfl) (fun D i x H' hx hD e hl' => ?_) fun mq H14 fmq e14 hmq => ?_
    · rw [List.getElem?_map] at hx
      obtain ⟨c, hc, rfl⟩ := Option.map_eq_some_iff.mp hx
      have hi : i < n + 1 := by have := (List.getElem?_eq_some_iff.mp hc).1; have := hcl.1; omega
      have hcc : FrAt H' c (cN L fs ws ls q0 q1 i) q1 := e _ _ (hcl.2 i c hc)
      unfold FrAt at hcc
      o_readsAll
      exact g_itemP e hl' hD (by rw [sizeLine_eq]; omega) rfl
    · have hm : H14 mq = some (.lst (((List.range (n + 1)).map fun i => fr1 (cN L fs ws ls q0 q1 i) q1).map V.int)) := by
        rw [hmq, List.length_map, hcl.1, List.map_map]
        rfl
      o_readsAll
      refine g_minI (.of hm) (by simp) fun m hm1 hm2 => ?_
      have hm0 : 0 ≤ m := by
        obtain ⟨i, hi, rfl⟩ := List.mem_map.mp hm1
        exact fr1_nn (hn i (by have := List.mem_range.mp hi; omega)) p1
      o_readsAll
      refine br (fun h => absurd h (by omega)) (fun _ => ?_)
      o_readsAll
      have e1214 : Same H12 H14 := e13.trans e14
      exact ⟨_, rfl, s12.same e1214, o12.same e1214, hsq12.same e1214, e1214 _ _ hen12, Nat.le_refl 6, fun q hq => (X12 q hq).same e1214⟩
  · o_readsAll
    exact ⟨[t1, t2, t3], rfl, s9, o09, hsq9, hen, Nat.le_trans (Nat.le_refl 3) (by decide), fun q hq => by
      simp only [List.mem_cons, List.not_mem_nil, or_false] at hq
      rcases hq with rfl | rfl | rfl <;> assumption⟩
end
end L30

namespace L30
set_option exponentiation.threshold 2000
open SX Ld
section
variable {P : Program} {w : World} {K : PySem.W.Frag} {mg : Str → Option Value} {base : Heap} {Z : Ad}
theorem l_rngS {σ : L2.St} {H : Hp} {Q : VK} {n j : Nat} {te : TE} {s : Addr} {lo : Int} {vs : List Nat} (R : Nat → Int → Prop) (hw : ∀ x, wipe ((wipe σ vs).set j (some x)) vs = wipe σ vs) (hst : Stk H s) (hn : n < sizeLine)
    (hs : ∀ (D : Addr) (i : Nat) (l : List Int) (H' : Hp) (Q' : VK), i < n → H D = none → D ≠ s → H' D = some (.lst (l.map V.int)) → l.length = i → Stk H' s → Off s H H' → (∀ x H2, R i x → Stk H2 s → Off s H' H2 → Q' (.int x) H2) → te ((wipe σ vs).set j (some (.int (lo + i)))) H' Q')
    (k : ∀ p f H', H p = none → Stk H' s → Off s H H' → IL H' p n f → (∀ i, i < n → R i (f i)) → Q (.ref p) H') : gLc (Itr lo n) (gName j) tYes te vs σ H Q := by
  refine l_it walk_range (fun D i acc H' => ∃ l : List Int, acc = l.map V.int ∧ l.length = i ∧ Stk H' s ∧ Off s H H' ∧ ∀ j x, l[j]? = some x → R j x) (fun D hD => ?_) (fun D i acc H' hD _ _ p => trivial) (fun D i x acc H1 H' hD hi e le p y => ?_) (fun D acc H' hD e _ p => ?_)
  · exact ⟨[], rfl, rfl, hst.put (hst.ne hD), fun b u _ q => by rw [upd_ne (ne_of_none q hD)]; exact q, fun _ _ h => nomatch h⟩
  · obtain ⟨e1, e2⟩ := y
    subst e1 e2
    obtain ⟨l, rfl, hl, s1, o1, hR⟩ := p
    have hDs : D ≠ s := (hst.ne hD).symm
    refine ⟨hw _, hs D i l _ _ hi hD hDs e hl s1 o1 fun x H2 hx s2 o2 => ?_⟩
    refine g_item (o2 _ _ hDs e) (by rw [List.length_map]; exact hl) (by omega) ⟨l ++ [x], by simp, by simp [hl], s2.put hDs.symm, fun b u hb q => by rw [upd_ne (ne_of_none q hD)]; exact o2 b u hb (o1 b u hb q), fun j y hy => ?_⟩
    by_cases hj : j < l.length
    · rw [List.getElem?_append_left hj] at hy
      exact hR j y hy
    · rw [List.getElem?_append_right (by omega)] at hy
      have : j - l.length = 0 := by
        by_cases h : j - l.length = 0
        · exact h
        · rw [List.getElem?_eq_none (by simp; omega)] at hy
          cases hy
      rw [this] at hy
      cases hy
      rw [show j = i by omega]
      exact hx
  · obtain ⟨l, rfl, hl, s1, o1, hR⟩ := p
    refine k D (fn l) H' hD s1 o1 (by unfold IL; rw [e, rng_fn, hl]) fun i hi => ?_
    have h := List.getElem?_eq_getElem (l := l) (i := i) (by omega)
    exact hR i _ (by rw [fn_at h]; exact h)
theorem ixN_at {n j : Nat} (h : j < n) : ixN n (j : Int) = some j := by
  unfold ixN
  rw [if_pos (by omega), if_pos (by omega), Int.toNat_natCast]
theorem rng_set (n j : Nat) (f : Nat → Int) (x : Int) : (rng n f).set j (.int x) = rng n (fun i => if i = j then x else f i) := by
  apply List.ext_getElem?
  intro i
  rw [List.getElem?_set]
  by_cases hi : i < n
  · rw [rng_at hi]
    by_cases h : j = i
    · subst h
      rw [if_pos rfl, if_pos (by rw [rng_len]; exact hi), rng_at hi, if_pos rfl]
    · rw [if_neg h, rng_at hi, if_neg (fun z => h z.symm)]
  · rw [List.getElem?_eq_none (by rw [rng_len]; omega), List.getElem?_eq_none (by rw [rng_len]; omega)]
    by_cases h : j = i
    · rw [if_pos h, if_neg (by rw [rng_len]; omega)]
    · rw [if_neg h]
/-- the told refusal, None -/
def FltAt (H : Hp) (o : Option (Str × V)) : V → Prop := fun x => match o with
  | none => x = .non
  | some (nm, v) => ∃ p, x = .ref p ∧ H p = some (.tup [.str nm, v]) ∧ Flat v
theorem FltAt.same {H H' : Hp} {o : Option (Str × V)} {x : V} (h : FltAt H o x) (e : Same H H') : FltAt H' o x := by
  unfold FltAt at *
  split at h
  · exact h
  · obtain ⟨p, a, b, c⟩ := h
    exact ⟨p, a, e _ _ b, c⟩
end
end L30

namespace L30
set_option exponentiation.threshold 9000
open SX Ld
section
variable {P : Program} {w : World} {K : PySem.W.Frag} {mg : Str → Option Value} {base : Heap} {Z : Ad}
theorem RaiseI.same {C : Addr} {f : Str} {v : V} {H H1 : Hp} {E : XK} (h : RaiseI C f v H E) (e : Same H H1) : RaiseI C f v H1 E := fun d H' hd e1 hx => h d H' (e.free hd) (e.trans e1) hx
theorem c_pmakeX {C CL CB l a b : Addr} {L : Int} {n m1 m2 : Nat} {fs : Nat → Int} {ret : Bool} {ws ls : Nat → Int} {H : Hp} {Q : VK} {E : XK} (hl : LadAt CL H l L n fs ret) (ha : IL H a m1 ws) (hb : IL H b m2 ls) (h1 : m1 ≤ 41) (h2 : m2 ≤ 41)
    (k1 : omin (wrc m1 n ws) (wrc m2 n ls) = none → ∀ t H' dx wl ll, H t = none → H wl = none → H ll = none → Same H H' → H' t = some (.ins C dx [("ladder_kept", .ref l), ("win_list", .ref wl), ("lose_list", .ref ll)]) → IL H' wl m1 ws → IL H' ll m2 ls → LadAt CL H' l L n fs ret → Q (.ref t) H') (k2 : ∀ r, omin (wrc m1 n ws) (wrc m2 n ls) = some r → RaiseI CB "rung" (.int r) H E) : gMake C (sp_pinit C CL CB) E [.ref l, .ref a, .ref b] H Q := by
  intro x dx hx hdx hne
  have e0 : Same H (upd (upd H dx (.own x)) x (.ins C dx [])) := fun b u q => by rw [upd_ne (ne_of_none q hx), upd_ne (ne_of_none q hdx)]; exact q
  have n1 : x ≠ a := (ne_of_none ha hx).symm
  have n3 : x ≠ b := (ne_of_none hb hx).symm
  have n2 : x ≠ l := by
    obtain ⟨_, _, _, _, _, _, a, _⟩ := hl
    exact (ne_of_none a hx).symm
  refine ⟨x, dx, l, a, b, L, n, m1, m2, fs, ret, ws, ls, rfl, upd_same, hl.same e0, ha.same e0, hb.same e0, h1, h2, n2, n1, n3, fun h H' wl ll fwl fll o g1 g2 g3 => ⟨rfl, ?_⟩, fun r hr => (k2 r hr).same e0⟩
  have e1 : Same H H' := fun b u q => o b u (ne_of_none q hx) (e0 b u q)
  exact k1 h x H' dx wl ll hx (e0.free fwl) (e0.free fll) e1 g1 g2 g3 (hl.same e1)
/-- a row of wins, of prizes for losers -/
def RowW (H : Hp) (q : Addr) : Prop := ∃ (m : Nat) (cs : Nat → Int), IL H q m cs ∧ m ≤ 41 ∧ ∀ i, i < m → -1 ≤ cs i ∧ cs i ≤ 2
def badR (m1 m2 : Nat) (c1 c2 : Nat → Int) (i : Nat) : Prop := (i < m1 ∧ c1 i < 0) ∨ (i < m2 ∧ c2 i < 0)
instance (m1 m2 : Nat) (c1 c2 : Nat → Int) : DecidablePred (badR m1 m2 c1 c2) := fun i => by unfold badR; infer_instance
theorem fb_or {p q : Nat → Prop} [DecidablePred p] [DecidablePred q] {r : Nat → Prop} [DecidablePred r] (h : ∀ i, r i ↔ p i ∨ q i) (n : Nat) : (fb r n).map (fun (i : Nat) => (i : Int)) = omin ((fb p n).map fun (i : Nat) => (i : Int)) ((fb q n).map fun (i : Nat) => (i : Int)) := by
  rcases fb_cases (p := p) n with ⟨hp, p1⟩ | ⟨i, hp, p1, p2, p3⟩ <;> rcases fb_cases (p := q) n with ⟨hq, q1⟩ | ⟨j, hq, q1, q2, q3⟩
  · rw [hp, hq, fb_none fun i hi z => ((h i).mp z).elim (p1 i hi) (q1 i hi)]
    rfl
  · rw [hp, hq, fb_at ((h j).mpr (.inr q2)) (fun k hk z => ((h k).mp z).elim (p1 k (by omega)) (q3 k hk)) q1]
    rfl
  · rw [hp, hq, fb_at ((h i).mpr (.inl p2)) (fun k hk z => ((h k).mp z).elim (p3 k hk) (q1 k (by omega))) p1]
    rfl
  · rw [hp, hq]
    by_cases hij : i ≤ j
    · rw [fb_at ((h i).mpr (.inl p2)) (fun k hk z => ((h k).mp z).elim (p3 k hk) (q3 k (by omega))) p1]
      show some (i : Int) = some (min (i : Int) (j : Int))
      rw [Int.min_eq_left (by omega)]
    · rw [fb_at ((h j).mpr (.inr q2)) (fun k hk z => ((h k).mp z).elim (p3 k (by omega)) (q3 k hk)) q1]
      show some (j : Int) = some (min (i : Int) (j : Int))
      rw [Int.min_eq_right (by omega)]
theorem wrc_ge {n m : Nat} {f : Nat → Int} {r : Int} (h : wrc n m f = some r) : -1 ≤ r := by
  unfold wrc at h
  split at h
  · cases h
    decide
  · obtain ⟨i, _, rfl⟩ := Option.map_eq_some_iff.mp h
    omega
theorem omin_len {m1 m2 n : Nat} {f g : Nat → Int} (h : m1 ≠ n ∨ m2 ≠ n) : omin (wrc m1 n f) (wrc m2 n g) = some (-1) := by
  by_cases h1 : m1 = n
  · have h2 : m2 ≠ n := by omega
    have e2 : wrc m2 n g = some (-1) := if_pos h2
    rw [e2]
    cases e1 : wrc m1 n f with
    | none => rfl
    | some r =>
      have := wrc_ge e1
      show some (min r (-1)) = _
      rw [Int.min_eq_right this]
  · have e1 : wrc m1 n f = some (-1) := if_pos h1
    rw [e1]
    cases e2 : wrc m2 n g with
    | none => rfl
    | some r =>
      have := wrc_ge e2
      show some (min (-1) r) = _
      rw [Int.min_eq_left this]
theorem omin_eq {n : Nat} {f g : Nat → Int} : omin (wrc n n f) (wrc n n g) = (fb (badR n n f g) n).map (fun (i : Nat) => (i : Int)) := by
  unfold wrc
  rw [if_neg (fun z => z rfl), if_neg (fun z => z rfl)]
  have hf : ∀ (f : Nat → Int), (fb (badC f) n) = fb (fun i => i < n ∧ f i < 0) n := fun f => by
    rcases fb_cases (p := badC f) n with ⟨hp, p1⟩ | ⟨i, hp, p1, p2, p3⟩
    · rw [hp, fb_none fun i hi z => p1 i hi z.2]
    · rw [hp, fb_at ⟨p1, p2⟩ (fun j hj z => p3 j hj z.2) p1]
  rw [hf, hf]
  exact (fb_or (r := badR n n f g) (fun i => Iff.rfl) n).symm
def sp_kref (Z : Ad) : Sp := fun vs H Q _ => ∃ (st l : Addr) (L : Int) (n : Nat) (fs : Nat → Int) (ret : Bool) (H0 : Hp) (u : HO), vs = [.ref st, .ref l, .int (n : Int)] ∧ Stk H st ∧ H0 st = some u ∧ LadFr Z.a_Ladder H0 H l L n fs ret ∧ l ≠ st ∧ 2 ≤ L ∧ L ≤ 6 ∧ 0 < n ∧ n ≤ 40 ∧ OkF fs ∧ LamX.Tabs (tabs Z) H ∧ ∀ H', Stk H' st → OffN st H H' → LamX.Tabs (tabs Z) H' → Q (.bl true) H'
theorem d_law_k30_refusals (T : Txt K w mg Z) (B : Bas Z mg base) : Dfn P w K mg base 12 "_law_k30_refusals" ["stock", "ladder", "rungs"] (sp_kref Z) := by
  obtain ⟨f, fd, F, hc, hm, hb⟩ := T.f_law_k30_refusals
  refine ⟨f, fd, okC F hc sc_law_k30_refusals (fun vs H Q E h => by first | (obtain ⟨rfl, _⟩ := h; rfl) | (obtain ⟨_, rfl, _⟩ := h; rfl) | (obtain ⟨_, _, rfl, _⟩ := h; rfl) | (obtain ⟨_, _, _, rfl, _⟩ := h; rfl) | (obtain ⟨_, _, _, _, rfl, _⟩ := h; rfl) | (obtain ⟨_, _, _, _, _, rfl, _⟩ := h; rfl) | (obtain ⟨_, _, _, _, _, _, rfl, _⟩ := h; rfl) | (obtain ⟨_, _, _, _, _, _, _, rfl, _⟩ := h; rfl) | (obtain ⟨_, _, _, _, _, _, _, _, rfl, _⟩ := h; rfl) | (obtain ⟨_, _, _, _, _, _, _, _, _, rfl, _⟩ := h; rfl) | (obtain ⟨_, _, _, _, _, _, _, _, _, _, rfl, _⟩ := h; rfl) | (obtain ⟨_, _, _, _, _, _, _, _, _, _, _, rfl, _⟩ := h; rfl) | (obtain ⟨_, _, _, _, _, _, _, _, _, _, _, _, rfl, _⟩ := h; rfl) | (obtain ⟨_, _, _, _, _, _, _, _, _, _, _, _, _, rfl, _⟩ := h; rfl) | (obtain ⟨_, _, _, _, _, _, _, _, _, _, _, _, _, _, rfl, _⟩ := h; rfl) | (obtain ⟨_, _, _, _, _, _, _, _, _, _, _, _, _, _, _, rfl, _⟩ := h; rfl) | (obtain ⟨_, _, _, _, _, _, _, _, _, _, _, _, _, _, _, _, rfl, _⟩ := h; rfl)) (fun A outer s H vs Q E hr h => ?_), hm, F.kp, hb⟩
  obtain ⟨st, l, L, n, fs, ret, H0, u, rfl, hs, hu, hl, nl, l2, l6, n0, n40, ok, hT, k⟩ := h
  have D_Prizes_sums := d_Prizes_sums (P := P) (base := base) T
  have D_law_draw := d_law_draw (P := P) (base := base) T
  have D_law_e_let := d_law_e_let (P := P) (base := base) T
  have D_law_e_refused := d_law_e_refused (P := P) (base := base) T
  have D_Prizes_init := d_Prizes_init (P := P) (base := base) T
  refine ⟨_, (pss_cons (ps_for PassesOwn.never rfl (pi_range1 (by rfl) T.b_range (pa_cons pe_int pa_nil)) (pg_name (i := 3) sc_law_k30_refusals.nd rfl (.inl rfl))
        (pss_cons (ps_set (i := 4) sc_law_k30_refusals.nd rfl (.inr rfl) (pe_lst pa_nil))
      (pss_cons (ps_for PassesOwn.never rfl (pi_range1 (by rfl) T.b_range (pa_cons pe_int pa_nil)) (pg_name (i := 5) sc_law_k30_refusals.nd rfl (.inl rfl))
        (pss_cons (ps_setLc (i := 6) (own := [("rung", 8)]) (by rfl) sc_law_k30_refusals.nd rfl rfl (sw_true rfl rfl rfl (by decide +kernel)) (pi_range1 (by rfl) T.b_range (pa_cons (pe_op op_uAdd (pv 2) (pe_ix ix_seq (pe_lst (pa_cons pe_int (pa_cons pe_int (pa_cons pe_int (pa_cons pe_int (pa_cons pe_int (pa_cons (pe_op op_sub pe_int pe_int) pa_nil))))))) (pe_dfn D_law_draw (hr.mono (by decide)) (by rfl) (pa_cons (pv 0) (pa_cons pe_int pa_nil))) (fun _ _ => rfl))) pa_nil)) (blkOk_by (N := n_law_k30_refusals) (sc := defScope st_law_k30_refusals) (by decide +kernel)) (fun _ _ _ _ _ => (pg_name (i := 8) sc_law_k30_refusals.nd rfl (.inl rfl))) (fun _ _ _ _ _ => pts_nil) (fun _ _ _ _ _ => (pe_dfn D_law_draw (hr.mono (by decide)) (by rfl) (pa_cons (pv 0) (pa_cons pe_int pa_nil)))))
      (pss_cons (ps_if (PW.pt (pw_and (pt_cmpR (op_uNe hr.units) (pv 6) (pe_lst pa_nil) (nomark _)) (pw_and1 (pt_cmpR (op_uEq hr.units) (pe_dfn D_law_draw (hr.mono (by decide)) (by rfl) (pa_cons (pv 0) (pa_cons pe_int pa_nil))) pe_int (nomark _))))) (pss_one (ps_asg (pe_op op_sub pe_int pe_int) (pg_sub (pv 6) (pe_dfn D_law_draw (hr.mono (by decide)) (by rfl) (pa_cons (pv 0) (pa_cons (pe_callB call_uLen (by rfl) T.b_len bt_len (pa_cons (pv 6) pa_nil)) pa_nil))) set_list))) pss_nil)
      (pss_one (ps_expr (pe_bm PySem.F.plainAttrs_list PySem.F.slot_list_append PySem.F.type_list_append mt_append (pv 4) (pa_cons (pv 6) pa_nil)))))))
      (pss_cons (ps_set (i := 7) sc_law_k30_refusals.nd rfl (.inl rfl) pe_non)
      (pss_cons (ps_for PassesOwn.never rfl (pi_revR (by rfl) T.b_reversed (prg_1 (by rfl) T.b_range (pv 2))) (pg_name (i := 8) sc_law_k30_refusals.nd rfl (.inl rfl))
        (pss_one (ps_if (PW.pt (pw_or (PW.pt (pw_and (pt_cmpR op_lt (pv 8) (pe_callB call_uLen (by rfl) T.b_len bt_len (pa_cons (pe_ix ix_seq (pv 4) pe_int (fun _ _ => rfl)) pa_nil)) (nomark _)) (pw_and1 (pt_cmpR op_lt (pe_ix ix_seq (pe_ix ix_seq (pv 4) pe_int (fun _ _ => rfl)) (pv 8) (fun _ _ => rfl)) pe_int (nomark _))))) (pw_or1 (PW.pt (pw_and (pt_cmpR op_lt (pv 8) (pe_callB call_uLen (by rfl) T.b_len bt_len (pa_cons (pe_ix ix_seq (pv 4) pe_int (fun _ _ => rfl)) pa_nil)) (nomark _)) (pw_and1 (pt_cmpR op_lt (pe_ix ix_seq (pe_ix ix_seq (pv 4) pe_int (fun _ _ => rfl)) (pv 8) (fun _ _ => rfl)) pe_int (nomark _)))))))) (pss_one (ps_set (i := 7) sc_law_k30_refusals.nd rfl (.inl rfl) (pe_tup (pa_cons pe_str (pa_cons (pv 8) pa_nil))))) pss_nil)))
      (pss_cons (ps_if (PW.pt (pw_or (pt_cmpR (op_uNe hr.units) (pe_callB call_uLen (by rfl) T.b_len bt_len (pa_cons (pe_ix ix_seq (pv 4) pe_int (fun _ _ => rfl)) pa_nil)) (pv 2) (nomark _)) (pw_or1 (pt_cmpR (op_uNe hr.units) (pe_callB call_uLen (by rfl) T.b_len bt_len (pa_cons (pe_ix ix_seq (pv 4) pe_int (fun _ _ => rfl)) pa_nil)) (pv 2) (nomark _))))) (pss_one (ps_set (i := 7) sc_law_k30_refusals.nd rfl (.inl rfl) (pe_tup (pa_cons pe_str (pa_cons (pe_op op_sub pe_int pe_int) pa_nil))))) pss_nil)
      (pss_lam (T := tabs Z) (i := 9) B.b_law_k30_refusals rfl (tabs_law_k30_refusals Z) (tabu_law_k30_refusals B) (LamX.lamS_by (sc := defScope st_law_k30_refusals) (by decide +kernel)) rfl sc_law_k30_refusals.nd rfl (.inl rfl) rfl rfl (fun _ _ _ _ => (pss_one (ps_if (pt_not (pt_ifExp (pt_cmpR op_uIsN (pv 7) pe_non (nomark _)) (pt_uK (K := K) rfl (pe_fwdP (i := 9) D_law_e_let (hr.mono (by decide)) (by rfl) (LamX.lamS_by (sc := defScope st_law_k30_refusals) (by decide +kernel)) (fun _ _ _ _ _ => rfl) (fun A outer s H E f c' hr => (pe_mth0 D_Prizes_sums (hr.mono (by decide)) (pe_iniS D_Prizes_init (hr.mono (by decide)) (by rfl) (takes_of rfl rfl rfl rfl) (pa_cons (pv 1) (pa_cons (pe_ix (ix_seqK (K := K) rfl) (pv 4) pe_int (fun _ _ => rfl)) (pa_cons (pe_ix (ix_seqK (K := K) rfl) (pv 4) pe_int (fun _ _ => rfl)) pa_nil)))))) rfl rfl pa_nil)) (pt_uK (K := K) rfl (pe_fwdP (i := 9) D_law_e_refused (hr.mono (by decide)) (by rfl) (LamX.lamS_by (sc := defScope st_law_k30_refusals) (by decide +kernel)) (fun _ _ _ _ _ => rfl) (fun A outer s H E f c' hr => (pe_mth0 D_Prizes_sums (hr.mono (by decide)) (pe_iniS D_Prizes_init (hr.mono (by decide)) (by rfl) (takes_of rfl rfl rfl rfl) (pa_cons (pv 1) (pa_cons (pe_ix (ix_seqK (K := K) rfl) (pv 4) pe_int (fun _ _ => rfl)) (pa_cons (pe_ix (ix_seqK (K := K) rfl) (pv 4) pe_int (fun _ _ => rfl)) pa_nil)))))) rfl rfl (pa_cons (pv 7) pa_nil))))) (pss_one (ps_ret pe_bl)) pss_nil))))))))))
      (pss_one (ps_ret pe_bl))), ?_⟩
  try dsimp only [cxOf, Cx.nox, Cx.wish]
  show (_ : TS) _ [some _, some _, some _, none, none, none, none, none, none, none] _
  o_readsAll
  refine f_rng (fun i σ' H' => ∃ (x3 x4 x5 x6 x7 x8 x9 : Option V), σ' = [some (.ref st), some (.ref l), some (.int (n : Int)), x3, x4, x5, x6, x7, x8, x9] ∧ Stk H' st ∧ OffN st H H' ∧ LamX.Tabs (tabs Z) H') ⟨_, _, _, _, _, _, _, rfl, hs, OffN.refl _ _, hT⟩ ?_ ?_
  · rintro i σ' H1 hi ⟨x3, x4, x5, x6, x7, x8, x9, rfl, s1, o1, T1⟩
    rw [Int.zero_add]
    o_readsAll
    rename_i rw0 H2 frw e2 hrw N1 hN1
    have s2 := s1.same e2
    have nrw : st ≠ rw0 := s1.ne frw
    have o12 : Off st H1 H2 := off_of e2
    clear e2
    refine f_rng (fun j σ' H' => ∃ (rs : List Addr) (x5 x6 x8 : Option V), σ' = [some (.ref st), some (.ref l), some (.int (n : Int)), some (.int (i : Int)), some (.ref rw0), x5, x6, x7, x8, x9] ∧ Stk H' st ∧ Off st H1 H' ∧ H' rw0 = some (.lst (rs.map V.ref)) ∧ rs.length = j ∧ ∀ q ∈ rs, q ≠ rw0 ∧ H1 q = none ∧ RowW H' q) ⟨[], _, _, _, rfl, s2, o12, hrw, rfl, fun q hq => nomatch hq⟩ ?_ ?_
    · rintro j σ' H3 hj ⟨rs, x5, x6, x8, rfl, s3, o3, hrw3, hrl, hrs⟩
      o_readsAll
      rename_i N2 hN2 ch H4 fch e4 hch
      refine c_draw (by decide) (by decide) (s3.same e4) fun r H5 r0 r1 s5 o5 => ?_
      have nch : st ≠ ch := s3.ne fch
      have hch5 := o5 _ _ nch.symm hch
      obtain ⟨c, rfl⟩ : ∃ c : Nat, r = (c : Int) := ⟨r.toNat, by omega⟩
      obtain ⟨v, hv, hv1, hv2⟩ : ∃ v : Int, [V.int 0, V.int 0, V.int 0, V.int 0, V.int 1, V.int (0 - 1)][c]? = some (V.int v) ∧ -1 ≤ v ∧ v ≤ 1 := by
        match c with
        | 0 => exact ⟨_, rfl, by decide, by decide⟩
        | 1 => exact ⟨_, rfl, by decide, by decide⟩
        | 2 => exact ⟨_, rfl, by decide, by decide⟩
        | 3 => exact ⟨_, rfl, by decide, by decide⟩
        | 4 => exact ⟨_, rfl, by decide, by decide⟩
        | 5 => exact ⟨_, rfl, by decide, by decide⟩
        | c + 6 => omega
      refine g_ixL (.of hch5) (atI_nat hv) ?_
      o_readsAll
      obtain ⟨sz, hsz⟩ : ∃ sz : Nat, (n : Int) + v = (sz : Int) := ⟨((n : Int) + v).toNat, by omega⟩
      have sz41 : sz ≤ 41 := by omega
      rw [hsz]
      have o35 : Off st H3 H5 := Off.trans (off_of e4) o5
      clear hv hv1 hv2 hch hch5 o5
      refine l_rngS (fun _ x => 0 ≤ x ∧ x < 3) (fun x => rfl) s5 (by rw [sizeLine_eq]; omega) (fun D j' l' H4 Q' hj hD hDs hl' hll s4 o4 hQ => ?_) fun D cs0 H6 fD s6 o6 hcs0 hcb0 => ?_
      · o_readsAll
        refine c_draw (by decide) (by decide) s4 fun x H5 x0 x1 s5 o5 => ?_
        exact hQ x H5 ⟨x0, x1⟩ s5 o5
      · rw [Int.toNat_natCast] at hcs0 hcb0
        have nD : st ≠ D := s5.ne fD
        have o36 := o35.trans o6
        have fD1 : H3 D = none := s5.free o35 fD
        have fDD : H1 D = none := s3.free o3 fD1
        have nDr : D ≠ rw0 := (ne_of_none hrw3 fD1).symm
        have hrw6 := o36 _ _ nrw.symm hrw3
        have fin : ∀ (cs : Nat → Int) (H' : Hp), Stk H' st → Off st H3 H' → H' rw0 = some (.lst (rs.map V.ref)) → IL H' D sz cs → (∀ i, i < sz → -1 ≤ cs i ∧ cs i ≤ 2) → ∃ (rs' : List Addr) (y5 y6 y8 : Option V), [some (.ref st), some (.ref l), some (.int (n : Int)), some (.int (i : Int)), some (.ref rw0), some (.int (j : Int)), some (.ref D), x7, x8, x9] = [some (.ref st), some (.ref l), some (.int (n : Int)), some (.int (i : Int)), some (.ref rw0), y5, y6, x7, y8, x9] ∧ Stk (upd H' rw0 (.lst (rs.map V.ref ++ [.ref D]))) st ∧ Off st H1 (upd H' rw0 (.lst (rs.map V.ref ++ [.ref D]))) ∧ (upd H' rw0 (.lst (rs.map V.ref ++ [.ref D]))) rw0 = some (.lst (rs'.map V.ref)) ∧ rs'.length = j + 1 ∧ ∀ q ∈ rs', q ≠ rw0 ∧ H1 q = none ∧ RowW (upd H' rw0 (.lst (rs.map V.ref ++ [.ref D]))) q := fun cs H' sH oH hrwH hD hcb => by
          refine ⟨rs ++ [D], _, _, _, rfl, sH.put nrw, Off.putN (o3.trans oH) frw, by rw [upd_same, List.map_append]; rfl, by rw [List.length_append, hrl]; rfl, fun q hq => ?_⟩
          rcases List.mem_append.mp hq with h | h
          · obtain ⟨a1, a2, m, cs', a3, a4, a5⟩ := hrs q h
            refine ⟨a1, a2, m, cs', ?_, a4, a5⟩
            unfold IL
            rw [upd_ne a1]
            exact oH _ _ (s1.ne a2).symm a3
          · rw [List.mem_singleton.mp h]
            exact ⟨nDr, fDD, sz, cs, by unfold IL; rw [upd_ne nDr]; exact hD, sz41, hcb⟩
        have hsz1 : (rs.map V.ref).length < sizeLine := by rw [List.length_map, sizeLine_eq]; omega
        rw [Int.zero_add]
        o_readsAll
        rename_i N3 hN3 nl7 H7 fnl e7 hnl
        have s7 := s6.same e7
        have o37 := o36.same e7
        have hcs7 := hcs0.same e7
        have hrw7 := e7 _ _ hrw6
        have hcs7' := hcs7
        unfold IL at hcs7'
        refine g_neIL (l := (List.range sz).map cs0) (m := []) (by rw [← rng_ints]; exact hcs7.sq) (.of hnl) ?_
        o_readsAll
        refine brn (fun hne => ?_) (fun hne => ?_)
        · have sz0 : 0 < sz := by
            rcases Nat.eq_zero_or_pos sz with h | h
            · rw [h] at hne
              exact absurd rfl hne
            · exact h
          o_readsAll
          refine c_draw (by decide) (by decide) s7 fun r8 H8 r80 r81 s8 o8 => ?_
          have hrw8 := o8 _ _ nrw.symm hrw7
          have hcs8 : IL H8 D sz cs0 := o8 _ _ nD.symm hcs7
          have hcs8' := hcs8
          unfold IL at hcs8'
          have o38 := o37.trans o8
          o_readsAll
          refine br (fun hd => ?_) (fun hd => ?_)
          · o_readsAll
            rw [rng_len]
            refine c_draw (by omega) (by omega) s8 fun r9 H9 r90 r91 s9 o9 => ?_
            obtain ⟨q, rfl⟩ : ∃ q : Nat, r9 = (q : Int) := ⟨r9.toNat, by omega⟩
            have hrw9 := o9 _ _ nrw.symm hrw8
            have hcs9 : IL H9 D sz cs0 := o9 _ _ nD.symm hcs8
            refine g_setL hcs9 (by rw [rng_len]; exact ixN_at (show q < sz by omega)) (rng_set sz q _ _) ?_
            have hrw10 : (upd H9 D (.lst (rng sz fun i => if i = q then 0 - 1 else cs0 i))) rw0 = some (.lst (rs.map V.ref)) := by rw [upd_ne nDr.symm]; exact hrw9
            have s10 : Stk (upd H9 D (.lst (rng sz fun i => if i = q then 0 - 1 else cs0 i))) st := s9.put nD
            have o310 : Off st H3 (upd H9 D (.lst (rng sz fun i => if i = q then 0 - 1 else cs0 i))) := Off.putN (o38.trans o9) fD1
            have hD10 : IL (upd H9 D (.lst (rng sz fun i => if i = q then 0 - 1 else cs0 i))) D sz (fun i => if i = q then 0 - 1 else cs0 i) := upd_same
            generalize upd H9 D (.lst (rng sz fun i => if i = q then 0 - 1 else cs0 i)) = H10 at *
            o_readsAll
            exact fin _ _ s10 o310 hrw10 hD10 fun i hi => by
              have := hcb0 i hi
              show -1 ≤ (if i = q then (0 - 1 : Int) else cs0 i) ∧ (if i = q then (0 - 1 : Int) else cs0 i) ≤ 2
              split <;> omega
          · o_readsAll
            exact fin cs0 H8 s8 o38 hrw8 hcs8 fun i hi => by have := hcb0 i hi; omega
        · o_readsAll
          exact fin cs0 H7 s7 o37 hrw7 hcs7 fun i hi => by have := hcb0 i hi; omega
    · rintro σ' H3 ⟨rs, x5, x6, x8, rfl, s3, o3, hrw3, hrl, hrs⟩
      obtain ⟨ra, rb, rfl⟩ : ∃ ra rb, rs = [ra, rb] := by
        match rs, hrl with
        | [a, b], _ => exact ⟨a, b, rfl⟩
      obtain ⟨-, -, ma, ca, hra, ma41, hca⟩ := hrs ra (by simp)
      obtain ⟨-, -, mb, cb, hrb, mb41, hcb⟩ := hrs rb (by simp)
      clear hrs
      have hrw3' : H3 rw0 = some (.lst [.ref ra, .ref rb]) := hrw3
      have hra' := hra
      have hrb' := hrb
      unfold IL at hra' hrb'
      o_readsAll
      refine f_rngC (fun j σ' H' => ∃ (o : Option Nat) (x8 : Option V) (vf : V), σ' = [some (.ref st), some (.ref l), some (.int (n : Int)), some (.int (i : Int)), some (.ref rw0), x5, x6, some vf, x8, x9] ∧ Same H3 H' ∧ lastB (badR ma mb ca cb) n (n - j) o ∧ FltAt H' (o.map fun r => (("BadTable" : Str), V.int (r : Int))) vf) ⟨none, _, .non, rfl, Same.refl _, lastB_start _ _, rfl⟩ ?_ ?_
      · rintro j σ' H7 hj ⟨o, x8, vf, rfl, e7, hlb, hfv⟩
        have hm : n - j = (n - 1 - j) + 1 := by omega
        rw [hm] at hlb
        have hm2 : n - (j + 1) = n - 1 - j := by omega
        have hlt : n - 1 - j < n := by omega
        rw [hm2]
        generalize n - 1 - j = m' at *
        have hra7 := e7 _ _ hra'
        have hrb7 := e7 _ _ hrb'
        have hrw7 := e7 _ _ hrw3'
        o_readsAll
        rw [rng_len]
        refine and_j (d := decide (ca m' < 0)) (fun h Q' hQ' => ?_) (fun H8 e8 => ?_)
        · have hm3 : m' < ma := by simpa using h
          o_readsAll
          refine g_ixL (.of hra7) (atI_nat (rng_at hm3)) ?_
          o_readsAll
          exact hQ' _ (Same.refl _)
        · have hra8 := e8 _ _ hra7
          have hrb8 := e8 _ _ hrb7
          have hrw8 := e8 _ _ hrw7
          refine or_j (d := decide (m' < mb) && decide (cb m' < 0)) (fun _ Q' hQ' => ?_) (fun H9 e9 => ?_)
          · o_readsAll
            rw [rng_len]
            refine and_j (d := decide (cb m' < 0)) (fun h Q2 hQ2 => ?_) (fun H10 e10 => ?_)
            · have hm3 : m' < mb := by simpa using h
              o_readsAll
              refine g_ixL (.of hrb8) (atI_nat (rng_at hm3)) ?_
              o_readsAll
              exact hQ2 _ (Same.refl _)
            · have := hQ' H10 e10
              rwa [show decide ((m' : Int) < (mb : Int)) = decide (m' < mb) from decide_eq_decide.mpr (by omega)]
          · refine brB (fun hb => ?_) (fun hb => ?_)
            · have hbad : badR ma mb ca cb m' := by
                simp only [Bool.or_eq_true, Bool.and_eq_true, decide_eq_true_eq] at hb
                unfold badR
                omega
              o_readsAll
              rename_i tp H10 ftp e10 htp
              exact ⟨some m', _, .ref tp, rfl, ((e7.trans e8).trans e9).trans e10, lastB_yes hlb hlt hbad, ⟨tp, rfl, htp, trivial⟩⟩
            · have hbad : ¬ badR ma mb ca cb m' := by
                intro hh
                have : (decide ((m' : Int) < (ma : Int)) && decide (ca m' < 0) || (decide (m' < mb) && decide (cb m' < 0))) = true := by
                  simp only [Bool.or_eq_true, Bool.and_eq_true, decide_eq_true_eq]
                  unfold badR at hh
                  omega
                rw [hb] at this
                cases this
              o_readsAll
              exact ⟨o, _, vf, rfl, (e7.trans e8).trans e9, lastB_no hlb hbad, (hfv.same e8).same e9⟩
      · rintro σ' H7 ⟨o, x8, vf, rfl, e7, hlb, hfv⟩
        rw [Nat.sub_self] at hlb
        have ho := lastB_fb hlb
        clear hlb
        have hra7 := e7 _ _ hra'
        have hrb7 := e7 _ _ hrb'
        have hrw7 := e7 _ _ hrw3'
        have o17 := o3.same e7
        have s7 := s3.same e7
        o_readsAll
        rw [rng_len]
        refine or_j (d := !decide ((mb : Int) = (n : Int))) (fun _ Q' hQ' => ?_) (fun H8 e8 => ?_)
        · o_readsAll
          rw [rng_len]
          exact hQ' _ (Same.refl _)
        · refine jnS (fun (σ' : L2.St) (H' : Hp) => ∃ (vf : V), σ' = [some (.ref st), some (.ref l), some (.int (n : Int)), some (.int (i : Int)), some (.ref rw0), x5, x6, some vf, x8, x9] ∧ Same H7 H' ∧ FltAt H' ((omin (wrc ma n ca) (wrc mb n cb)).map fun r => (("BadTable" : Str), V.int r)) vf) ?_ (fun N hN => brB (fun hk => ?_) (fun hk => ?_))
          · rintro σ' H9 ⟨vf, rfl, e9, hfv⟩
            have T9 := tabs_off T1 s1 (o17.same e9)
            have o9 := o1.off (o17.same e9)
            have s9 := s7.same e9
            have hl9 := hl.offN hu nl o9
            have hra9 := e9 _ _ hra7
            have hrb9 := e9 _ _ hrb7
            have hrw9 := e9 _ _ hrw7
            o_readsAll
            refine i_lamS T9 fun f c' Ha ea Ta hca' => ?_
            have hla := hl9.at.ext ea
            have hraa := ea _ _ hra9 (fun _ z => nomatch z)
            have hrba := ea _ _ hrb9 (fun _ z => nomatch z)
            have hrwa := ea _ _ hrw9 (fun _ z => nomatch z)
            have oa := o9.ext ea
            have sa := s9.ext ea
            cases hom : omin (wrc ma n ca) (wrc mb n cb) with
            | none =>
              rw [hom] at hfv
              cases hfv
              have ow : wrc ma n ca = none ∧ wrc mb n cb = none := by
                cases h1 : wrc ma n ca with
                | none => rw [h1] at hom; exact ⟨rfl, hom⟩
                | some r => rw [h1] at hom; cases h2 : wrc mb n cb <;> rw [h2] at hom <;> cases hom
              obtain ⟨w1, w2⟩ := wrc_ok ow.1
              obtain ⟨w3, w4⟩ := wrc_ok ow.2
              subst w1
              subst w3
              o_readsAll
              refine i_ifT ?_
              o_readsAll
              refine c_let (fun E1 Q1 h1 => ⟨hca', ?_⟩) fun Hb eb => ?_
              · o_readsAll
                refine c_pmakeX hla (show IL Ha ra _ ca from hraa) (show IL Ha rb _ cb from hrba) ma41 mb41 (fun _ t Hc dx wl ll _ _ _ ec i1 i2 i3 i4 => ?_) (fun r hr => by rw [hom] at hr; cases hr)
                o_readsAll
                refine c_psums ⟨dx, l, wl, ll, i1, i2, i3, i4⟩ ⟨l2, l6, n0, n40, ok, w2, w4, fun i hi => ?_, fun i hi => ?_⟩ fun q Hd _ ed _ => ?_
                · have := hca i hi
                  exact Nat.lt_of_le_of_lt (show (ca i).natAbs ≤ 2 by omega) (by decide)
                · have := hcb i hi
                  exact Nat.lt_of_le_of_lt (show (cb i).natAbs ≤ 2 by omega) (by decide)
                · exact h1 _ _ (ec.trans ed)
              · o_readsAll
                exact ⟨_, _, _, _, _, _, _, rfl, sa.same eb, oa.same eb, Ta.ext eb⟩
            | some r =>
              rw [hom] at hfv
              obtain ⟨du, rfl, hdu, _⟩ := hfv
              have hdua := ea _ _ hdu (fun _ z => nomatch z)
              o_readsAll
              refine i_ifT ?_
              o_readsAll
              refine c_refused (v := .int _) err_BadTable trivial hdua (fun E1 Q1 h1 => ⟨hca', ?_⟩) fun Hb eb => ?_
              · o_readsAll
                refine c_pmakeX hla (show IL Ha ra ma ca from hraa) (show IL Ha rb mb cb from hrba) ma41 mb41 (fun hn => by rw [hom] at hn; cases hn) (fun r' hr => by
                  rw [hom] at hr
                  cases hr
                  exact fun d H' _ e hd => h1 d H' e hd)
              · o_readsAll
                exact ⟨_, _, _, _, _, _, _, rfl, sa.same eb, oa.same eb, Ta.ext eb⟩
          · have hk' : ma ≠ n ∨ mb ≠ n := by
              simp only [Bool.or_eq_true, Bool.not_eq_true', decide_eq_false_iff_not] at hk
              omega
            o_readsAll
            rename_i tp H9 ftp e9 htp
            refine ⟨.ref tp, rfl, e8.trans e9, ?_⟩
            rw [omin_len hk']
            exact ⟨tp, rfl, htp, trivial⟩
          · have hk' : ma = n ∧ mb = n := by
              simp only [Bool.or_eq_false_iff, Bool.not_eq_false', decide_eq_true_eq] at hk
              omega
            obtain ⟨rfl, rfl⟩ := hk'
            o_readsAll
            refine ⟨vf, rfl, e8, ?_⟩
            rw [omin_eq, ← ho, Option.map_map]
            cases o with
            | none => exact hfv.same e8
            | some r => exact hfv.same e8
  · rintro σ' H1 ⟨x3, x4, x5, x6, x7, x8, x9, rfl, s1, o1, T1⟩
    o_readsAll
    exact k H1 s1 o1 T1
end
end L30

namespace L30
set_option exponentiation.threshold 9000
open SX Ld
section
variable {P : Program} {w : World} {K : PySem.W.Frag} {mg : Str → Option Value} {base : Heap} {Z : Ad}
theorem PzS.of {C CL st : Addr} {H0 H' : Hp} {t l dx wl ll : Addr} {L : Int} {n : Nat} {fs : Nat → Int} {ret : Bool} {ws ls : Nat → Int} {u : HO} (hl : LadFr CL H0 H' l L n fs ret) (hu : H0 st = some u) (nl : l ≠ st) (nt : t ≠ st) (nw : wl ≠ st) (nll : ll ≠ st) (i1 : H' t = some (.ins C dx [("ladder_kept", .ref l), ("win_list", .ref wl), ("lose_list", .ref ll)])) (i2 : IL H' wl n ws) (i3 : IL H' ll n ls) : PzS C CL st H' t L n fs ret ws ls := fun G o =>
  ⟨dx, l, wl, ll, o _ _ nt i1 (fun _ z => nomatch z), o _ _ nw i2 (fun _ z => nomatch z), o _ _ nll i3 (fun _ z => nomatch z), (hl.offN hu nl o).at⟩
theorem c_kent {st z p wq lq fl : Addr} {L : Int} {n : Nat} {fs : Nat → Int} {ret : Bool} {ws ls : Nat → Int} {H : Hp} {Q : VK} {E : XK} (hs : Stk H st) (hz : PzS Z.a_Prizes Z.a_Ladder st H z L n fs ret ws ls) (hp : H p = some (.lst [.int L, .ref fl, .bl ret])) (hf : IL H fl n fs) (hw : IL H wq n ws) (hl : IL H lq n ls) (np : st ≠ p) (nf : st ≠ fl) (nw : st ≠ wq) (nl : st ≠ lq) (ok : ZOk L n fs ws ls) (k : ∀ H', Stk H' st → Off st H H' → Q (.bl true) H') : sp_kent Z [.ref st, .ref z, .ref p, .ref wq, .ref lq] H Q E := ⟨st, z, p, wq, lq, fl, L, n, fs, ret, ws, ls, rfl, hs, hz, hp, hf, hw, hl, np, nf, nw, nl, ok, k⟩
theorem c_kref {st l : Addr} {L : Int} {n : Nat} {fs : Nat → Int} {ret : Bool} {H0 H : Hp} {u : HO} {Q : VK} {E : XK} (hs : Stk H st) (hu : H0 st = some u) (hl : LadFr Z.a_Ladder H0 H l L n fs ret) (nl : l ≠ st) (l2 : 2 ≤ L) (l6 : L ≤ 6) (n0 : 0 < n) (n40 : n ≤ 40) (ok : OkF fs) (hT : LamX.Tabs (tabs Z) H) (k : ∀ H', Stk H' st → OffN st H H' → LamX.Tabs (tabs Z) H' → Q (.bl true) H') : sp_kref Z [.ref st, .ref l, .int (n : Int)] H Q E := ⟨st, l, L, n, fs, ret, H0, u, rfl, hs, hu, hl, nl, l2, l6, n0, n40, ok, hT, k⟩
theorem c_pwin {C CL p : Addr} {f : (Nat → Int) → (Nat → Int) → Nat → Int} {L : Int} {n : Nat} {fs : Nat → Int} {ret : Bool} {ws ls : Nat → Int} {H : Hp} {Q : VK} {E : XK} (h : PzAt C CL H p L n fs ret ws ls) (k : ∀ q H', H q = none → Same H H' → IL H' q n (f ws ls) → Q (.ref q) H') : sp_pwin C CL f [.ref p] H Q E := ⟨p, L, n, fs, ret, ws, ls, rfl, h, k⟩
def sp_law (K : PySem.W.Frag) (Z : Ad) : Sp := fun vs H Q _ => ∃ (a : Addr) (ns : List Int), vs = [.ref a] ∧ SqL K H a (ns.map V.int) ∧ ns.length ≤ 63 ∧ LamX.Tabs (tabs Z) H ∧ ∀ H', Q (.bl true) H'
theorem ok_law (T : Txt K w mg Z) (B : Bas Z mg base) {f : Addr} {fd : FuncData} (F : Fun K "law" "law" st_law f fd) (hc : fd.code = .ref Z.c_law) : FnOk P w K mg base CX0 13 f fd ["script"] (sp_law K Z) := by
  refine okC F hc sc_law (fun vs H Q E h => by first | (obtain ⟨rfl, _⟩ := h; rfl) | (obtain ⟨_, rfl, _⟩ := h; rfl) | (obtain ⟨_, _, rfl, _⟩ := h; rfl) | (obtain ⟨_, _, _, rfl, _⟩ := h; rfl) | (obtain ⟨_, _, _, _, rfl, _⟩ := h; rfl) | (obtain ⟨_, _, _, _, _, rfl, _⟩ := h; rfl) | (obtain ⟨_, _, _, _, _, _, rfl, _⟩ := h; rfl) | (obtain ⟨_, _, _, _, _, _, _, rfl, _⟩ := h; rfl) | (obtain ⟨_, _, _, _, _, _, _, _, rfl, _⟩ := h; rfl) | (obtain ⟨_, _, _, _, _, _, _, _, _, rfl, _⟩ := h; rfl) | (obtain ⟨_, _, _, _, _, _, _, _, _, _, rfl, _⟩ := h; rfl) | (obtain ⟨_, _, _, _, _, _, _, _, _, _, _, rfl, _⟩ := h; rfl) | (obtain ⟨_, _, _, _, _, _, _, _, _, _, _, _, rfl, _⟩ := h; rfl) | (obtain ⟨_, _, _, _, _, _, _, _, _, _, _, _, _, rfl, _⟩ := h; rfl) | (obtain ⟨_, _, _, _, _, _, _, _, _, _, _, _, _, _, rfl, _⟩ := h; rfl) | (obtain ⟨_, _, _, _, _, _, _, _, _, _, _, _, _, _, _, rfl, _⟩ := h; rfl) | (obtain ⟨_, _, _, _, _, _, _, _, _, _, _, _, _, _, _, _, rfl, _⟩ := h; rfl)) (fun A outer s H vs Q E hr h => ?_)
  obtain ⟨a, ns, rfl, hS, hns, hT, k⟩ := h
  have D_law_stock := d_law_stock (P := P) (base := base) T
  have D_law_e_ladder := d_law_e_ladder (P := P) (base := base) T
  have D_Ladder_init := d_Ladder_init (P := P) (base := base) T
  have D_Prizes_init := d_Prizes_init (P := P) (base := base) T
  have D_law_e_refused := d_law_e_refused (P := P) (base := base) T
  have D_law_draw := d_law_draw (P := P) (base := base) T
  have D_Prizes_win := d_Prizes_win (P := P) (base := base) T
  have D_Prizes_sums := d_Prizes_sums (P := P) (base := base) T
  have D_law_e_falls := d_law_e_falls (P := P) (base := base) T
  have D_law_k30_entries := d_law_k30_entries (P := P) (base := base) T
  have D_law_k30_refusals := d_law_k30_refusals (P := P) (base := base) T B
  have D_Prizes_per_meeting := d_Prizes_per_meeting (P := P) (base := base) T
  have D_law_k30_tellers := d_law_k30_tellers (P := P) (base := base) T
  refine ⟨_, (pss_cons (ps_set (i := 1) sc_law.nd rfl (.inr rfl) (pe_dfn D_law_stock (hr.mono (by decide)) (by rfl) (pa_cons (pv 0) (pa_cons pe_int pa_nil))))
      (pss_cons (ps_set (i := 2) sc_law.nd rfl (.inl rfl) (pe_dfn D_law_e_ladder (hr.mono (by decide)) (by rfl) (pa_cons (pv 1) (pa_cons pe_int (pa_cons pe_int (pa_cons pe_int pa_nil))))))
      (pss_cons (ps_if (pt_cmpR (op_uEq hr.units) (pe_dfn D_law_draw (hr.mono (by decide)) (by rfl) (pa_cons (pv 1) (pa_cons pe_int pa_nil))) pe_int (nomark _)) (pss_one (ps_set (i := 2) sc_law.nd rfl (.inl rfl) (pe_lst (pa_cons (pe_ix ix_seq (pv 2) pe_int (fun _ _ => rfl)) (pa_cons (pe_dfn D_law_e_falls (hr.mono (by decide)) (by rfl) (pa_cons (pv 1) (pa_cons pe_int pa_nil))) (pa_cons (pe_ix ix_seq (pv 2) pe_int (fun _ _ => rfl)) pa_nil)))))) pss_nil)
      (pss_cons (ps_set (i := 3) sc_law.nd rfl (.inr rfl) (pe_callB call_uLen (by rfl) T.b_len bt_len (pa_cons (pe_ix ix_seq (pv 2) pe_int (fun _ _ => rfl)) pa_nil)))
      (pss_cons (ps_set (i := 4) sc_law.nd rfl (.inr rfl) (pe_ifExp (pt_cmpR (op_uEq hr.units) (pe_dfn D_law_draw (hr.mono (by decide)) (by rfl) (pa_cons (pv 1) (pa_cons pe_int pa_nil))) pe_int (nomark _)) (pe_op op_pow pe_int pe_int) pe_int))
      (pss_cons (ps_setLc (i := 5) (own := [("rung", 14)]) (by rfl) sc_law.nd rfl rfl (sw_true rfl rfl rfl (by decide +kernel)) (pi_range1 (by rfl) T.b_range (pa_cons (pv 3) pa_nil)) (blkOk_by (N := n_law) (sc := defScope st_law) (by decide +kernel)) (fun _ _ _ _ _ => (pg_name (i := 14) sc_law.nd rfl (.inl rfl))) (fun _ _ _ _ _ => pts_nil) (fun _ _ _ _ _ => (pe_ifExp (pt_cmpR op_gt (pe_dfn D_law_draw (hr.mono (by decide)) (by rfl) (pa_cons (pv 1) (pa_cons pe_int pa_nil))) pe_int (nomark _)) (pe_dfn D_law_draw (hr.mono (by decide)) (by rfl) (pa_cons (pv 1) (pa_cons (pe_op (op_uAddK (K := K) rfl) (pv 4) pe_int) pa_nil))) pe_int)))
      (pss_cons (ps_setLc (i := 6) (own := [("rung", 14)]) (by rfl) sc_law.nd rfl rfl (sw_true rfl rfl rfl (by decide +kernel)) (pi_range1 (by rfl) T.b_range (pa_cons (pv 3) pa_nil)) (blkOk_by (N := n_law) (sc := defScope st_law) (by decide +kernel)) (fun _ _ _ _ _ => (pg_name (i := 14) sc_law.nd rfl (.inl rfl))) (fun _ _ _ _ _ => pts_nil) (fun _ _ _ _ _ => (pe_ifExp (pt_cmpR (op_uEqK (K := K) rfl hr.units) (pe_dfn D_law_draw (hr.mono (by decide)) (by rfl) (pa_cons (pv 1) (pa_cons pe_int pa_nil))) pe_int (nomark _)) (pe_dfn D_law_draw (hr.mono (by decide)) (by rfl) (pa_cons (pv 1) (pa_cons (pe_op (op_uAddK (K := K) rfl) (pv 4) pe_int) pa_nil))) pe_int)))
      (pss_cons (ps_set (i := 7) sc_law.nd rfl (.inl rfl) (pe_ini D_Ladder_init (hr.mono (by decide)) (by rfl) (pa_cons (pe_ix ix_seq (pv 2) pe_int (fun _ _ => rfl)) (pa_cons (pe_ix ix_seq (pv 2) pe_int (fun _ _ => rfl)) (pa_cons (pe_ix ix_seq (pv 2) pe_int (fun _ _ => rfl)) pa_nil)))))
      (pss_cons (ps_set (i := 8) sc_law.nd rfl (.inl rfl) (pe_callTy call_uList (by rfl) T.b_list bt_list (pa_cons (pv 5) pa_nil)))
      (pss_cons (ps_set (i := 9) sc_law.nd rfl (.inr rfl) (pe_iniS D_Prizes_init (hr.mono (by decide)) (by rfl) takes0 (pa_cons (pv 7) (pa_cons (pv 8) (pa_cons (pe_callTy call_uList (by rfl) T.b_list bt_list (pa_cons (pv 6) pa_nil)) pa_nil)))))
      (pss_cons (ps_augS (pv 8) pe_int get_list pe_int ip_add set_list)
      (pss_cons (ps_set (i := 10) sc_law.nd rfl (.inl rfl) (pe_iniS D_Prizes_init (hr.mono (by decide)) (by rfl) takes0 (pa_cons (pv 7) (pa_cons (pv 6) (pa_cons (pv 5) pa_nil)))))
      (pss_cons (ps_for PassesOwn.never rfl (pi_range1 (by rfl) T.b_range (pa_cons pe_int pa_nil)) (pg_name (i := 11) sc_law.nd rfl (.inl rfl))
        (pss_cons (ps_if (PW.pt (pw_or (pt_not (pt_u (pe_dfn D_law_k30_tellers (hr.mono (by decide)) (by rfl) (pa_cons (pv 9) (pa_cons (pv 2) (pa_cons (pv 5) (pa_cons (pv 6) pa_nil))))))) (pw_or1 (pt_not (pt_u (pe_dfn D_law_k30_tellers (hr.mono (by decide)) (by rfl) (pa_cons (pv 10) (pa_cons (pv 2) (pa_cons (pv 6) (pa_cons (pv 5) pa_nil)))))))))) (pss_one (ps_ret pe_bl)) pss_nil)
      (pss_cons (ps_set (i := 12) sc_law.nd rfl (.inl rfl) (pe_mth0 D_Prizes_win (hr.mono (by decide)) (pv 9)))
      (pss_cons (ps_augS (pv 12) pe_int get_list pe_int ip_add set_list)
      (pss_cons (ps_set (i := 13) sc_law.nd rfl (.inl rfl) (pe_mth0 D_Prizes_sums (hr.mono (by decide)) (pv 9)))
      (pss_one (ps_asg pe_int (pg_sub (pv 13) pe_int set_list))))))))
      (pss_cons (ps_if (PW.pt (pw_or (pt_not (pt_u (pe_dfn D_law_k30_entries (hr.mono (by decide)) (by rfl) (pa_cons (pv 1) (pa_cons (pv 9) (pa_cons (pv 2) (pa_cons (pv 5) (pa_cons (pv 6) pa_nil)))))))) (pw_or1 (pt_not (pt_u (pe_dfn D_law_k30_refusals (hr.mono (by decide)) (by rfl) (pa_cons (pv 1) (pa_cons (pv 7) (pa_cons (pv 3) pa_nil))))))))) (pss_one (ps_ret pe_bl)) pss_nil)
      (pss_cons (ps_if (pt_not (pt_u (pe_lam (T := tabs Z) D_law_e_refused (hr.mono (by decide)) (by rfl) (pa_cons (pe_tup (pa_cons pe_str (pa_cons (pe_op op_sub pe_int pe_int) pa_nil))) pa_nil) B.b_law rfl (tabs_law Z) (tabu_law B) (LamX.lamS_by (sc := defScope st_law) (by decide +kernel)) rfl (fun _ _ _ _ _ => rfl) (fun A outer s H E f c' hr => (pe_mthS D_Prizes_per_meeting (hr.mono (by decide)) (takes_of rfl rfl rfl rfl) (pv 9) (pa_cons (pe_op op_sub pe_int pe_int) pa_nil))) rfl rfl))) (pss_one (ps_ret pe_bl)) pss_nil)
      (pss_one (ps_ret (pe_lam (T := tabs Z) D_law_e_refused (hr.mono (by decide)) (by rfl) (pa_cons (pe_tup (pa_cons pe_str (pa_cons (pv 3) pa_nil))) pa_nil) B.b_law rfl (tabs_law Z) (tabu_law B) (LamX.lamS_by (sc := defScope st_law) (by decide +kernel)) rfl (fun _ _ _ _ _ => rfl) (fun A outer s H E f c' hr => (pe_mthS D_Prizes_per_meeting (hr.mono (by decide)) (takes_of rfl rfl rfl rfl) (pv 9) (pa_cons (pv 3) pa_nil))) rfl rfl)))))))))))))))))), ?_⟩
  try dsimp only [cxOf, Cx.nox, Cx.wish]
  show (_ : TS) _ [some _, none, none, none, none, none, none, none, none, none, none, none, none, none, none] _
  o_readsAll
  refine c_stock (at_ := 0) hS hns (by decide) fun st H1 f1 e1 s1 => ?_
  have T1 := hT.ext e1
  o_readsAll
  refine c_elad (lo := 1) (hi := 6) (wi := 6) (by decide) (by decide) (by decide) (by decide) (by decide) s1 fun p L n fs ret H2 fp s2 o2 hp nfl l2 l6 n1 n12 ok => ?_
  have np : st ≠ p := s1.ne fp
  have T2 := tabs_off T1 s1 o2
  obtain ⟨fl, hp1, hp2⟩ := hp
  have nf := nfl fl hp1
  o_readsAll
  refine c_draw (by decide) (by decide) s2 fun r3 H3 r30 r31 s3 o3 => ?_
  have T3 := tabs_off T2 s2 o3
  have hp3 := o3 _ _ np.symm hp1
  have hf3 : IL H3 fl n fs := o3 _ _ nf.symm hp2
  o_readsAll
  refine jnS (fun (σ' : L2.St) (H' : Hp) => ∃ (p fl : Addr) (n : Nat) (fs : Nat → Int), σ' = [some (.ref a), some (.ref st), some (.ref p), none, none, none, none, none, none, none, none, none, none, none, none] ∧ Stk H' st ∧ H' p = some (.lst [.int L, .ref fl, .bl ret]) ∧ IL H' fl n fs ∧ OkF fs ∧ 0 < n ∧ n ≤ 40 ∧ st ≠ p ∧ st ≠ fl ∧ LamX.Tabs (tabs Z) H') ?_ (fun N hN => br (fun hk => ?_) (fun hk => ?_))
  · clear hf3 hp3 T3 o3 s3 nf hp1 hp2 T2 np nfl fp n1 n12 ok
    clear p n fs fl
    rintro σ' H4 ⟨p, fl, n, fs, rfl, s4, hp4, hf4, ok, n0, n40, np, nf, T4⟩
    have hf4u := hf4
    unfold IL at hf4u
    o_readsAll
    rw [rng_len]
    refine c_draw (by decide) (by decide) s4 fun r5 H5 r50 r51 s5 o5 => ?_
    have T5 := tabs_off T4 s4 o5
    have hp5 := o5 _ _ np.symm hp4
    have hf5 : IL H5 fl n fs := o5 _ _ nf.symm hf4
    clear T4 hf4u
    o_readsAll
    refine jnE (fun x H' => ∃ g : Int, x = .int g ∧ 9 ≤ g ∧ g ≤ 10 ^ 30 ∧ H' = H5) ?_ (fun Q' hQ => br (fun h => ?_) (fun h => ?_))
    · rintro x H' ⟨g, rfl, g9, g30, rfl⟩
      have g200 : g + 1 < 2 ^ 200 := by
        have h1 : (10 : Int) ^ 30 + 1 < 2 ^ 200 := by decide
        omega
      have g101 : ∀ y : Int, 0 ≤ y → y ≤ g → y.natAbs < 2 ^ 101 := fun y h1 h2 => by
        have h3 : (10 : Int) ^ 30 < 2 ^ 101 := by decide
        have h4 : (2 : Int) ^ 101 = ((2 ^ 101 : Nat) : Int) := by decide
        generalize (2 : Nat) ^ 101 = X at *
        omega
      o_readsAll
      rw [Int.toNat_natCast]
      refine l_rngS (fun _ x => 0 ≤ x ∧ x ≤ g) (fun x => rfl) s5 (by rw [sizeLine_eq]; omega) (fun D j' l' H6 Q' hj hD hDs hl' hll s6 o6 hQ => ?_) fun wq ws H6 fwq s6 o6 hws hwb => ?_
      · o_readsAll
        refine c_draw (by decide) (by decide) s6 fun x H7 x0 x1 s7 o7 => ?_
        o_readsAll
        refine br (fun h => ?_) (fun h => ?_)
        · o_readsAll
          refine c_draw (by omega) g200 s7 fun y H8 y0 y1 s8 o8 => ?_
          exact hQ y H8 ⟨y0, by omega⟩ s8 (o7.trans o8)
        · o_readsAll
          exact hQ 0 H7 ⟨by decide, by omega⟩ s7 o7
      have T6 := tabs_off T5 s5 o6
      have hp6 := o6 _ _ np.symm hp5
      have hf6 : IL H6 fl n fs := o6 _ _ nf.symm hf5
      have nwq : st ≠ wq := s5.ne fwq
      o_readsAll
      rw [Int.toNat_natCast]
      refine l_rngS (fun _ x => 0 ≤ x ∧ x ≤ g) (fun x => rfl) s6 (by rw [sizeLine_eq]; omega) (fun D j' l' H7 Q' hj hD hDs hl' hll s7 o7 hQ => ?_) fun lq ls H7 flq s7 o7 hls hlb => ?_
      · o_readsAll
        refine c_draw (by decide) (by decide) s7 fun x H8 x0 x1 s8 o8 => ?_
        o_readsAll
        refine br (fun h => ?_) (fun h => ?_)
        · o_readsAll
          refine c_draw (by omega) g200 s8 fun y H9 y0 y1 s9 o9 => ?_
          exact hQ y H9 ⟨y0, by omega⟩ s9 (o8.trans o9)
        · o_readsAll
          exact hQ 0 H8 ⟨by decide, by omega⟩ s8 o8
      have T7 := tabs_off T6 s6 o7
      have hp7 := o7 _ _ np.symm hp6
      have hf7 : IL H7 fl n fs := o7 _ _ nf.symm hf6
      have hw7 : IL H7 wq n ws := o7 _ _ nwq.symm hws
      have nlq : st ≠ lq := s6.ne flq
      have okz : ZOk L n fs ws ls := ⟨l2, l6, n0, n40, ok, fun i hi => (hwb i hi).1, fun i hi => (hlb i hi).1, fun i hi => g101 _ (hwb i hi).1 (hwb i hi).2, fun i hi => g101 _ (hlb i hi).1 (hlb i hi).2⟩
      have okz2 : ZOk L n fs ls ws := ⟨l2, l6, n0, n40, ok, okz.v0, okz.w0, okz.lb, okz.wb⟩
      have hf7u := hf7
      have hw7u := hw7
      have hl7u := hls
      unfold IL at hf7u hw7u hl7u
      clear hws hwb hlb hp6 hf6 T6 hp5 hf5 T5 o6 o7 hp4 hf4 s4 s5
      o_readsAll
      refine c_lmake hf7 l2 l6 n0 n40 ok fun l H8 fl8 e8 hl8 => ?_
      have nl : l ≠ st := (s7.ne fl8).symm
      have hw8 := e8 _ _ hw7u
      have hl8u := e8 _ _ hl7u
      obtain ⟨u0, u1, u2, hst7⟩ := s7
      have s7 : Stk H7 st := ⟨u0, u1, u2, hst7⟩
      o_readsAll
      rename_i hn H9 fhn e9 hhn N9 hN9 lc H10 flc e10 hlc
      have hhn10 := e10 _ _ hhn
      have e810 : Same H8 H10 := e9.trans e10
      refine c_pmakeX (hl8.same e810).at (show IL H10 hn n ws from hhn10) (show IL H10 lc n ls from hlc) (by omega) (by omega) (fun _ z H11 dz zw zl fz fzw fzl e11 z1 z2 z3 _ => ?_) (fun r hr => ?_)
      rotate_left
      · rw [ok_wrc okz.w0, ok_wrc okz.v0] at hr
        cases hr
      have e710 : Same H7 H10 := e8.trans e810
      have hst10 := e710 _ _ hst7
      have nz : z ≠ st := (ne_of_none hst10 fz).symm
      have nzw : zw ≠ st := (ne_of_none hst10 fzw).symm
      have nzl : zl ≠ st := (ne_of_none hst10 fzl).symm
      have qz : z ≠ hn := (ne_of_none hhn10 fz).symm
      have qzw : zw ≠ hn := (ne_of_none hhn10 fzw).symm
      have qzl : zl ≠ hn := (ne_of_none hhn10 fzl).symm
      have hhn11 := e11 _ _ hhn10
      have fhn7 : H7 hn = none := e8.free fhn
      have e711 : Same H7 H11 := e710.trans e11
      have e811 : Same H8 H11 := e810.trans e11
      clear hhn10 hhn hlc
      o_readsAll
      refine g_ixLg (.of hhn11) (atI_nat (j := 0) (rng_at n0)) ?_
      o_readsAll
      refine g_setL hhn11 (by rw [rng_len]; exact ixN_at (j := 0) n0) rfl ?_
      generalize ((rng n ws).set 0 _) = ys
      have e712 : Same H7 (upd H11 hn (.lst ys)) := Eg.Same.put e711 fhn7
      have e812 : Same H8 (upd H11 hn (.lst ys)) := Eg.Same.put e811 fhn
      have hl12 := hl8.same e812
      have hz12 : PzS Z.a_Prizes Z.a_Ladder st (upd H11 hn (.lst ys)) z L n fs ret ws ls := PzS.of (dx := dz) (wl := zw) (ll := zl) hl12 hst7 nl nz nzw nzl (by rw [upd_ne qz]; exact z1) (by unfold IL; rw [upd_ne qzw]; exact z2) (by unfold IL; rw [upd_ne qzl]; exact z3)
      have T12 := T7.ext e712
      have hp12 := e712 _ _ hp7
      have hf12 := e712 _ _ hf7u
      have hw12 := e712 _ _ hw7u
      have hlq12 := e712 _ _ hl7u
      have s12 := s7.same e712
      have hst12 := e712 _ _ hst7
      generalize upd H11 hn (.lst ys) = H12 at *
      clear z1 z2 z3 hhn11 e711 e811 e712 e812 e710 e810 hl8 e11 e9 hl8u hw8
      clear hp7 hf7 hw7 hls hf7u hw7u hl7u s7 T7
      o_readsAll
      refine c_pmakeX hl12.at (show IL H12 lq n ls from hlq12) (show IL H12 wq n ws from hw12) (by omega) (by omega) (fun _ z' H13 dz' zw' zl' fz' fzw' fzl' e13 z1 z2 z3 _ => ?_) (fun r hr => ?_)
      rotate_left
      · rw [ok_wrc okz.w0, ok_wrc okz.v0] at hr
        cases hr
      have hz13 := hz12.off ((OffN.refl _ _).same e13)
      have hl13 := hl12.same e13
      have hy13 : PzS Z.a_Prizes Z.a_Ladder st H13 z' L n fs ret ls ws := PzS.of hl13 hst7 nl (ne_of_none hst12 fz').symm (ne_of_none hst12 fzw').symm (ne_of_none hst12 fzl').symm z1 z2 z3
      have T13 := T12.ext e13
      have hp13 := e13 _ _ hp12
      have hf13 := e13 _ _ hf12
      have hw13 := e13 _ _ hw12
      have hlq13 := e13 _ _ hlq12
      have s13 := s12.same e13
      clear hz12 hl12 T12 hp12 hf12 hw12 hlq12 s12 hst12 z1 z2 z3 e13
      o_readsAll
      refine f_rng (fun i σ' H' => ∃ (x11 x12 x13 : Option V), σ' = [some (.ref a), some (.ref st), some (.ref p), some (.int (n : Int)), some (.int g), some (.ref wq), some (.ref lq), some (.ref l), some (.ref hn), some (.ref z), some (.ref z'), x11, x12, x13, none] ∧ Same H13 H') ⟨_, _, _, rfl, Same.refl _⟩ ?_ ?_
      · rintro i σ' H14 hi ⟨x11, x12, x13, rfl, e14⟩
        have hz14 := hz13.at.same e14
        have hz14' := hz14
        obtain ⟨dx, lz, wl, ll, i1, _, _, _⟩ := hz14'
        have PA14 : PlA H14 p L n fs ret := ⟨fl, e14 _ _ hp13, (show IL H14 fl n fs from e14 _ _ hf13)⟩
        o_readsAll
        refine c_ktell hz14 PA14 (show IL H14 wq n ws from e14 _ _ hw13) (show IL H14 lq n ls from e14 _ _ hlq13) okz fun H15 e15 => ?_
        have e1315 : Same H13 H15 := e14.trans e15
        o_readsAll
        refine c_ktell (hy13.at.same e1315) (PA14.same e15) (show IL H15 lq n ls from e1315 _ _ hlq13) (show IL H15 wq n ws from e1315 _ _ hw13) okz2 fun H16 e16 => ?_
        have e1316 : Same H13 H16 := e1315.trans e16
        have i16 := e16 _ _ (e15 _ _ i1)
        o_readsAll
        refine c_pwin (hz13.at.same e1316) fun tq H17 ftq e17 htq => ?_
        have htq' := htq
        unfold IL at htq'
        o_readsAll
        refine g_ixLg (.of htq') (atI_nat (j := 0) (rng_at n0)) ?_
        o_readsAll
        refine g_setL htq' (by rw [rng_len]; exact ixN_at (j := 0) n0) rfl ?_
        generalize ((rng n ws).set 0 _) = ys2
        have e1318 : Same H13 (upd H17 tq (.lst ys2)) := Eg.Same.put (e1316.trans e17) (e1316.free ftq)
        have i18 : upd H17 tq (.lst ys2) z = some (.ins Z.a_Prizes dx [("ladder_kept", .ref lz), ("win_list", .ref wl), ("lose_list", .ref ll)]) := by rw [upd_ne (ne_of_none i16 ftq)]; exact e17 _ _ i16
        generalize upd H17 tq (.lst ys2) = H18 at *
        o_readsAll
        refine c_psums (hz13.at.same e1318) okz fun sq H19 fsq e19 hsq => ?_
        have hsq' := hsq
        unfold IL at hsq'
        o_readsAll
        refine g_setL hsq' (by rw [rng_len]; exact ixN_at (j := 0) (by omega)) rfl ?_
        exact ⟨_, _, _, rfl, Eg.Same.put (e1318.trans e19) (e1318.free fsq)⟩
      · rintro σ' H14 ⟨x11, x12, x13, rfl, e14⟩
        have hz14 := hz13.off ((OffN.refl _ _).same e14)
        have hl14 := hl13.same e14
        o_readsAll
        refine c_kent (s13.same e14) hz14 (e14 _ _ hp13) (show IL H14 fl n fs from e14 _ _ hf13) (show IL H14 wq n ws from e14 _ _ hw13) (show IL H14 lq n ls from e14 _ _ hlq13) np nf nwq nlq okz fun H15 s15 o15 => ?_
        have T15 := tabs_off (T13.ext e14) (s13.same e14) o15
        have O15 : OffN st H14 H15 := (OffN.refl _ _).off o15
        o_readsAll
        refine c_kref s15 hst7 (hl14.offN hst7 nl O15) nl l2 l6 n0 n40 ok T15 fun H16 s16 O16 T16 => ?_
        have hz16 := (hz14.off (O15.trans O16)).at
        o_readsAll
        refine i_lam2 T16 fun H17 e17 T17 c' hc' => ?_
        have hz17 := hz16.ext e17
        o_readsAll
        rename_i du H18 fdu e18 hdu
        have hz18 := hz17.same e18
        have hz18' := hz18
        obtain ⟨dx, lz, wl, ll, i1, _, _, _⟩ := hz18'
        refine c_refused (v := .int _) err_BadLadder trivial hdu (fun E1 Q1 h1 => ⟨e18 _ _ hc', ?_⟩) fun H19 e19 => ?_
        · o_readsAll
          refine ⟨z, _, L, n, fs, ret, ws, ls, rfl, hz18, by omega, fun i hi => Nat.lt_trans (okz.lb i hi) (Nat.pow_lt_pow_right (by decide) (by decide)), fun a' h1 h2 => absurd h1 (by omega), fun _ d H' _ e hd => h1 d H' e hd⟩
        · have T19 := (T17.ext e18).ext e19
          have hz19 := hz18.same e19
          o_readsAll
          refine i_lam2 T19 fun H20 e20 T20 c2 hc2 => ?_
          have hz20 := hz19.ext e20
          o_readsAll
          rename_i du2 H21 fdu2 e21 hdu2
          have hz21 := hz20.same e21
          have hz21' := hz21
          obtain ⟨dx, lz, wl, ll, i1, _, _, _⟩ := hz21'
          refine c_refused (v := .int _) err_BadLadder trivial hdu2 (fun E1 Q1 h1 => ⟨e21 _ _ hc2, ?_⟩) fun H22 e22 => ?_
          · o_readsAll
            refine ⟨z, _, L, n, fs, ret, ws, ls, rfl, hz21, by omega, fun i hi => Nat.lt_trans (okz.lb i hi) (Nat.pow_lt_pow_right (by decide) (by decide)), fun a' h1 h2 => absurd h1 (by omega), fun _ d H' _ e hd => h1 d H' e hd⟩
          · o_readsAll
            exact k H22
    · o_readsAll
      exact hQ _ _ ⟨_, rfl, by decide, by decide, rfl⟩
    · o_readsAll
      exact hQ _ _ ⟨_, rfl, by decide, by decide, rfl⟩
  · o_readsAll
    rw [show (40 : Int) = ((40 : Nat) : Int) from rfl]
    refine c_falls (by decide) (by decide) s3 fun fl2 fs2 H4 ffl2 s4 o4 hf4 ok2 => ?_
    have hp4 := o4 _ _ np.symm hp3
    have nf2 : st ≠ fl2 := s3.ne ffl2
    have T4 := tabs_off T3 s3 o4
    o_readsAll
    rename_i p2 H5 fp2 e5 hp5
    exact ⟨p2, fl2, 40, fs2, rfl, s4.same e5, hp5, hf4.same e5, ok2, by decide, by decide, s4.ne fp2, nf2, T4.ext e5⟩
  · o_readsAll
    exact ⟨p, fl, n, fs, rfl, s3, hp3, hf3, ok, by omega, by omega, np, nf, T3⟩
end
end L30

end
namespace L30
open PySem PySem.Spec PyProof.Rows L2 Rl Eg
/-- an error of its own class is caught -/
theorem exm_own {K : PySem.W.Frag} {C : Addr} (h1 : PySem.W.subIn K (.ref C) (.type "BaseException") = some true) (h2 : PySem.W.isClsIn K C = true) (h3 : PySem.W.typeIn K (.ref C) = some (.type "type")) (h4 : PySem.W.subIn K (.ref C) (.ref C) = some true) : PySem.W.exmOne K (.ref C) (.ref C) = some true := by
  have z : (PySem.W.clsIn K C).isSome = true := h2
  simp only [PySem.W.exmOne, PySem.W.kitCls, h1, h3, h4, z]
  rfl
theorem all_mk {l : PySem.W.OpenLaw} {w : World} {K : PySem.W.Frag} {h : Heap} {mg : Str → Option Value} {fa a_Prizes a_Ladder a_LIMITS a_TOLD a_BadLadder a_BadTable a_WinsError a_TooMany a_BadDemand a_BadText a_BadSeason a_BadCode a_BadEvent a_BadFoe a_BadPaper a_BadDisk a_BadDeed c_law_k30_refusals p_law_k30_refusals c_law p_law f_BadLadder_init f_BadTable_init f_common f_fraction f_taken f_times f_less f_grown f_load_rows f_head_row f_worth_row f_wrong_count f_Prizes_init f_Prizes_ladder f_Prizes_win f_Prizes_lose f_Prizes_per_meeting f_Prizes_sums f_Prizes_claims f_Prizes_fair_entry f_Prizes_ruin_after f_bound f_wrong_rung f_Ladder_init f_Ladder_same_as f_Ladder_lanes f_Ladder_rungs f_Ladder_falls f_Ladder_returns f_Ladder_check_rung f_Ladder_check_place f_Ladder_fall f_Ladder_heads f_Ladder_weights f_law_e_named f_law_e_asked f_law_e_refused f_law_e_let f_law_e_falls f_law_e_ladder f_law_e_low f_law_e_loads f_law_e_heads f_law_e_common f_law_e_fraction f_law_stock f_law_draw f_law_matches f_law_k30_paid f_law_k30_claims f_law_k30_fair f_law_k30_tellers f_law_k30_ruin f_law_k30_entries f_law_k30_refusals f_law : Addr} (X : K.In h) (G : h.Ns mainGlobals mg) (hfa : mg "law" = some (.ref fa))
    {od_BadLadder_init an_BadLadder_init od_BadTable_init an_BadTable_init od_common an_common od_fraction an_fraction od_taken an_taken od_times an_times od_less an_less od_grown an_grown od_load_rows an_load_rows od_head_row an_head_row od_worth_row an_worth_row od_wrong_count an_wrong_count od_Prizes_init an_Prizes_init od_Prizes_ladder an_Prizes_ladder od_Prizes_win an_Prizes_win od_Prizes_lose an_Prizes_lose od_Prizes_per_meeting an_Prizes_per_meeting od_Prizes_sums an_Prizes_sums od_Prizes_claims an_Prizes_claims od_Prizes_fair_entry an_Prizes_fair_entry od_Prizes_ruin_after an_Prizes_ruin_after od_bound an_bound od_wrong_rung an_wrong_rung od_Ladder_init an_Ladder_init od_Ladder_same_as an_Ladder_same_as od_Ladder_lanes an_Ladder_lanes od_Ladder_rungs an_Ladder_rungs od_Ladder_falls an_Ladder_falls od_Ladder_returns an_Ladder_returns od_Ladder_check_rung an_Ladder_check_rung od_Ladder_check_place an_Ladder_check_place od_Ladder_fall an_Ladder_fall od_Ladder_heads an_Ladder_heads od_Ladder_weights an_Ladder_weights od_law_e_named an_law_e_named od_law_e_asked an_law_e_asked od_law_e_refused an_law_e_refused od_law_e_let an_law_e_let od_law_e_falls an_law_e_falls od_law_e_ladder an_law_e_ladder od_law_e_low an_law_e_low od_law_e_loads an_law_e_loads od_law_e_heads an_law_e_heads od_law_e_common an_law_e_common od_law_e_fraction an_law_e_fraction od_law_stock an_law_stock od_law_draw an_law_draw od_law_matches an_law_matches od_law_k30_paid an_law_k30_paid od_law_k30_claims an_law_k30_claims od_law_k30_fair an_law_k30_fair od_law_k30_tellers an_law_k30_tellers od_law_k30_ruin an_law_k30_ruin od_law_k30_entries an_law_k30_entries od_law_k30_refusals an_law_k30_refusals vo_law_k30_refusals od_law an_law vo_law : Option Addr}
    {sl_BadLadder_init sl_BadTable_init sl_common sl_fraction sl_taken sl_times sl_less sl_grown sl_load_rows sl_head_row sl_worth_row sl_wrong_count sl_Prizes_init sl_Prizes_ladder sl_Prizes_win sl_Prizes_lose sl_Prizes_per_meeting sl_Prizes_sums sl_Prizes_claims sl_Prizes_fair_entry sl_Prizes_ruin_after sl_bound sl_wrong_rung sl_Ladder_init sl_Ladder_same_as sl_Ladder_lanes sl_Ladder_rungs sl_Ladder_falls sl_Ladder_returns sl_Ladder_check_rung sl_Ladder_check_place sl_Ladder_fall sl_Ladder_heads sl_Ladder_weights sl_law_e_named sl_law_e_asked sl_law_e_refused sl_law_e_let sl_law_e_falls sl_law_e_ladder sl_law_e_low sl_law_e_loads sl_law_e_heads sl_law_e_common sl_law_e_fraction sl_law_stock sl_law_draw sl_law_matches sl_law_k30_paid sl_law_k30_claims sl_law_k30_fair sl_law_k30_tellers sl_law_k30_ruin sl_law_k30_entries sl_law_k30_refusals vl_law_k30_refusals sl_law vl_law : Array (Option Value)}
    {oc_BadLadder_init kV_BadLadder_init dc_BadLadder_init pm_BadLadder_init cd_BadLadder_init ct_BadLadder_init oc_BadTable_init kV_BadTable_init dc_BadTable_init pm_BadTable_init cd_BadTable_init ct_BadTable_init oc_common kV_common dc_common pm_common cd_common ct_common oc_fraction kV_fraction dc_fraction pm_fraction cd_fraction ct_fraction oc_taken kV_taken dc_taken pm_taken cd_taken ct_taken oc_times kV_times dc_times pm_times cd_times ct_times oc_less kV_less dc_less pm_less cd_less ct_less oc_grown kV_grown dc_grown pm_grown cd_grown ct_grown oc_load_rows kV_load_rows dc_load_rows pm_load_rows cd_load_rows ct_load_rows oc_head_row kV_head_row dc_head_row pm_head_row cd_head_row ct_head_row oc_worth_row kV_worth_row dc_worth_row pm_worth_row cd_worth_row ct_worth_row oc_wrong_count kV_wrong_count dc_wrong_count pm_wrong_count cd_wrong_count ct_wrong_count oc_Prizes_init kV_Prizes_init dc_Prizes_init pm_Prizes_init cd_Prizes_init ct_Prizes_init oc_Prizes_ladder kV_Prizes_ladder dc_Prizes_ladder pm_Prizes_ladder cd_Prizes_ladder ct_Prizes_ladder oc_Prizes_win kV_Prizes_win dc_Prizes_win pm_Prizes_win cd_Prizes_win ct_Prizes_win oc_Prizes_lose kV_Prizes_lose dc_Prizes_lose pm_Prizes_lose cd_Prizes_lose ct_Prizes_lose oc_Prizes_per_meeting kV_Prizes_per_meeting dc_Prizes_per_meeting pm_Prizes_per_meeting cd_Prizes_per_meeting ct_Prizes_per_meeting oc_Prizes_sums kV_Prizes_sums dc_Prizes_sums pm_Prizes_sums cd_Prizes_sums ct_Prizes_sums oc_Prizes_claims kV_Prizes_claims dc_Prizes_claims pm_Prizes_claims cd_Prizes_claims ct_Prizes_claims oc_Prizes_fair_entry kV_Prizes_fair_entry dc_Prizes_fair_entry pm_Prizes_fair_entry cd_Prizes_fair_entry ct_Prizes_fair_entry oc_Prizes_ruin_after kV_Prizes_ruin_after dc_Prizes_ruin_after pm_Prizes_ruin_after cd_Prizes_ruin_after ct_Prizes_ruin_after oc_bound kV_bound dc_bound pm_bound cd_bound ct_bound oc_wrong_rung kV_wrong_rung dc_wrong_rung pm_wrong_rung cd_wrong_rung ct_wrong_rung oc_Ladder_init kV_Ladder_init dc_Ladder_init pm_Ladder_init cd_Ladder_init ct_Ladder_init oc_Ladder_same_as kV_Ladder_same_as dc_Ladder_same_as pm_Ladder_same_as cd_Ladder_same_as ct_Ladder_same_as oc_Ladder_lanes kV_Ladder_lanes dc_Ladder_lanes pm_Ladder_lanes cd_Ladder_lanes ct_Ladder_lanes oc_Ladder_rungs kV_Ladder_rungs dc_Ladder_rungs pm_Ladder_rungs cd_Ladder_rungs ct_Ladder_rungs oc_Ladder_falls kV_Ladder_falls dc_Ladder_falls pm_Ladder_falls cd_Ladder_falls ct_Ladder_falls oc_Ladder_returns kV_Ladder_returns dc_Ladder_returns pm_Ladder_returns cd_Ladder_returns ct_Ladder_returns oc_Ladder_check_rung kV_Ladder_check_rung dc_Ladder_check_rung pm_Ladder_check_rung cd_Ladder_check_rung ct_Ladder_check_rung oc_Ladder_check_place kV_Ladder_check_place dc_Ladder_check_place pm_Ladder_check_place cd_Ladder_check_place ct_Ladder_check_place oc_Ladder_fall kV_Ladder_fall dc_Ladder_fall pm_Ladder_fall cd_Ladder_fall ct_Ladder_fall oc_Ladder_heads kV_Ladder_heads dc_Ladder_heads pm_Ladder_heads cd_Ladder_heads ct_Ladder_heads oc_Ladder_weights kV_Ladder_weights dc_Ladder_weights pm_Ladder_weights cd_Ladder_weights ct_Ladder_weights oc_law_e_named kV_law_e_named dc_law_e_named pm_law_e_named cd_law_e_named ct_law_e_named oc_law_e_asked kV_law_e_asked dc_law_e_asked pm_law_e_asked cd_law_e_asked ct_law_e_asked oc_law_e_refused kV_law_e_refused dc_law_e_refused pm_law_e_refused cd_law_e_refused ct_law_e_refused oc_law_e_let kV_law_e_let dc_law_e_let pm_law_e_let cd_law_e_let ct_law_e_let oc_law_e_falls kV_law_e_falls dc_law_e_falls pm_law_e_falls cd_law_e_falls ct_law_e_falls oc_law_e_ladder kV_law_e_ladder dc_law_e_ladder pm_law_e_ladder cd_law_e_ladder ct_law_e_ladder oc_law_e_low kV_law_e_low dc_law_e_low pm_law_e_low cd_law_e_low ct_law_e_low oc_law_e_loads kV_law_e_loads dc_law_e_loads pm_law_e_loads cd_law_e_loads ct_law_e_loads oc_law_e_heads kV_law_e_heads dc_law_e_heads pm_law_e_heads cd_law_e_heads ct_law_e_heads oc_law_e_common kV_law_e_common dc_law_e_common pm_law_e_common cd_law_e_common ct_law_e_common oc_law_e_fraction kV_law_e_fraction dc_law_e_fraction pm_law_e_fraction cd_law_e_fraction ct_law_e_fraction oc_law_stock kV_law_stock dc_law_stock pm_law_stock cd_law_stock ct_law_stock oc_law_draw kV_law_draw dc_law_draw pm_law_draw cd_law_draw ct_law_draw oc_law_matches kV_law_matches dc_law_matches pm_law_matches cd_law_matches ct_law_matches oc_law_k30_paid kV_law_k30_paid dc_law_k30_paid pm_law_k30_paid cd_law_k30_paid ct_law_k30_paid oc_law_k30_claims kV_law_k30_claims dc_law_k30_claims pm_law_k30_claims cd_law_k30_claims ct_law_k30_claims oc_law_k30_fair kV_law_k30_fair dc_law_k30_fair pm_law_k30_fair cd_law_k30_fair ct_law_k30_fair oc_law_k30_tellers kV_law_k30_tellers dc_law_k30_tellers pm_law_k30_tellers cd_law_k30_tellers ct_law_k30_tellers oc_law_k30_ruin kV_law_k30_ruin dc_law_k30_ruin pm_law_k30_ruin cd_law_k30_ruin ct_law_k30_ruin oc_law_k30_entries kV_law_k30_entries dc_law_k30_entries pm_law_k30_entries cd_law_k30_entries ct_law_k30_entries oc_law_k30_refusals kV_law_k30_refusals dc_law_k30_refusals pm_law_k30_refusals ct_law_k30_refusals oc_law kV_law dc_law pm_law ct_law : Value}
    {vs_law_k30_refusals vs_law : Array Value}
    {t_LIMITS_lines t_LIMITS_words t_LIMITS_number t_LIMITS_depth t_LIMITS_blocks t_LIMITS_lanes t_LIMITS_rungs t_LIMITS_ways t_LIMITS_promises t_LIMITS_variables t_LIMITS_states t_LIMITS_rows t_LIMITS_events t_LIMITS_meetings t_LIMITS_housemeetings t_LIMITS_rounds t_LIMITS_late t_LIMITS_plan t_LIMITS_nodes t_LIMITS_players t_LIMITS_log t_LIMITS_signs t_OUT t_TOLD_blocks t_TOLD_states t_TOLD_housemeetings : Tok}
    {n_LIMITS n_TOLD : Nat}
    {nm_BadLadder q_BadLadder : Str} {N_BadLadder : Addr} {bs_BadLadder bm_BadLadder : List Value} {sn_BadLadder : List Str} {sub_BadLadder : List Value} {ab_BadLadder : Bool} {col_BadLadder : Option Bool} {dd_BadLadder : Option Addr} {k0_BadLadder k1_BadLadder k2_BadLadder k3_BadLadder k5_BadLadder : Option Value}
    {nm_BadTable q_BadTable : Str} {N_BadTable : Addr} {bs_BadTable bm_BadTable : List Value} {sn_BadTable : List Str} {sub_BadTable : List Value} {ab_BadTable : Bool} {col_BadTable : Option Bool} {dd_BadTable : Option Addr} {k0_BadTable k1_BadTable k2_BadTable k3_BadTable k5_BadTable : Option Value}
    {e_LIMITS e_TOLD : Array DictEntry}
    (g_Prizes : PySem.W.nsIn K mainGlobals "Prizes" = some (some (.ref a_Prizes)))
    (pg_Prizes : PySem.W.plainGet K a_Prizes Str.empty = true)
    (hd_Prizes : PySem.W.hasDictIn K a_Prizes = true)
    (po_Prizes : PySem.W.plainOver K a_Prizes = true)
    (sa_Prizes : PySem.W.findIn K (.ref a_Prizes) "__setattr__" = some (some (.builtin "object.__setattr__")))
    (mk_Prizes : PySem.W.makesIn K a_Prizes = true)
    (kc_Prizes : PySem.W.keepIn K (.ref a_Prizes) = true)
    (g_Ladder : PySem.W.nsIn K mainGlobals "Ladder" = some (some (.ref a_Ladder)))
    (pg_Ladder : PySem.W.plainGet K a_Ladder Str.empty = true)
    (hd_Ladder : PySem.W.hasDictIn K a_Ladder = true)
    (po_Ladder : PySem.W.plainOver K a_Ladder = true)
    (sa_Ladder : PySem.W.findIn K (.ref a_Ladder) "__setattr__" = some (some (.builtin "object.__setattr__")))
    (mk_Ladder : PySem.W.makesIn K a_Ladder = true)
    (kc_Ladder : PySem.W.keepIn K (.ref a_Ladder) = true)
    (b_ValueError : PySem.W.nsIn K mainGlobals "ValueError" = some none)
    (b_abs : PySem.W.nsIn K mainGlobals "abs" = some none)
    (b_bool : PySem.W.nsIn K mainGlobals "bool" = some none)
    (b_enumerate : PySem.W.nsIn K mainGlobals "enumerate" = some none)
    (b_int : PySem.W.nsIn K mainGlobals "int" = some none)
    (b_isinstance : PySem.W.nsIn K mainGlobals "isinstance" = some none)
    (b_len : PySem.W.nsIn K mainGlobals "len" = some none)
    (b_list : PySem.W.nsIn K mainGlobals "list" = some none)
    (b_max : PySem.W.nsIn K mainGlobals "max" = some none)
    (b_min : PySem.W.nsIn K mainGlobals "min" = some none)
    (b_range : PySem.W.nsIn K mainGlobals "range" = some none)
    (b_reversed : PySem.W.nsIn K mainGlobals "reversed" = some none)
    (b_str : PySem.W.nsIn K mainGlobals "str" = some none)
    (b_sum : PySem.W.nsIn K mainGlobals "sum" = some none)
    (b_tuple : PySem.W.nsIn K mainGlobals "tuple" = some none)
    (b_zip : PySem.W.nsIn K mainGlobals "zip" = some none)
    (c_LIMITS : PySem.W.nsIn K mainGlobals "LIMITS" = some (some (.ref a_LIMITS)))
    (l_LIMITS : K.lookup a_LIMITS = some ⟨.type "dict", none, .dict e_LIMITS n_LIMITS, #[]⟩)
    (kl_LIMITS : PySem.W.KeysLit w.params (e_LIMITS).toList)
    (v_LIMITS_lines : PySem.W.nsIn K a_LIMITS "lines" = some (some (.int 300 t_LIMITS_lines)))
    (v_LIMITS_words : PySem.W.nsIn K a_LIMITS "words" = some (some (.int 60 t_LIMITS_words)))
    (v_LIMITS_number : PySem.W.nsIn K a_LIMITS "number" = some (some (.int 1000000000000000000000000000000 t_LIMITS_number)))
    (v_LIMITS_depth : PySem.W.nsIn K a_LIMITS "depth" = some (some (.int 20 t_LIMITS_depth)))
    (v_LIMITS_blocks : PySem.W.nsIn K a_LIMITS "blocks" = some (some (.int 12 t_LIMITS_blocks)))
    (v_LIMITS_lanes : PySem.W.nsIn K a_LIMITS "lanes" = some (some (.int 6 t_LIMITS_lanes)))
    (v_LIMITS_rungs : PySem.W.nsIn K a_LIMITS "rungs" = some (some (.int 40 t_LIMITS_rungs)))
    (v_LIMITS_ways : PySem.W.nsIn K a_LIMITS "ways" = some (some (.int 8 t_LIMITS_ways)))
    (v_LIMITS_promises : PySem.W.nsIn K a_LIMITS "promises" = some (some (.int 20 t_LIMITS_promises)))
    (v_LIMITS_variables : PySem.W.nsIn K a_LIMITS "variables" = some (some (.int 4 t_LIMITS_variables)))
    (v_LIMITS_states : PySem.W.nsIn K a_LIMITS "states" = some (some (.int 400 t_LIMITS_states)))
    (v_LIMITS_rows : PySem.W.nsIn K a_LIMITS "rows" = some (some (.int 600 t_LIMITS_rows)))
    (v_LIMITS_events : PySem.W.nsIn K a_LIMITS "events" = some (some (.int 3000 t_LIMITS_events)))
    (v_LIMITS_meetings : PySem.W.nsIn K a_LIMITS "meetings" = some (some (.int 3000 t_LIMITS_meetings)))
    (v_LIMITS_housemeetings : PySem.W.nsIn K a_LIMITS "housemeetings" = some (some (.int 400 t_LIMITS_housemeetings)))
    (v_LIMITS_rounds : PySem.W.nsIn K a_LIMITS "rounds" = some (some (.int 300 t_LIMITS_rounds)))
    (v_LIMITS_late : PySem.W.nsIn K a_LIMITS "late" = some (some (.int 6 t_LIMITS_late)))
    (v_LIMITS_plan : PySem.W.nsIn K a_LIMITS "plan" = some (some (.int 200 t_LIMITS_plan)))
    (v_LIMITS_nodes : PySem.W.nsIn K a_LIMITS "nodes" = some (some (.int 2000 t_LIMITS_nodes)))
    (v_LIMITS_players : PySem.W.nsIn K a_LIMITS "players" = some (some (.int 60 t_LIMITS_players)))
    (v_LIMITS_log : PySem.W.nsIn K a_LIMITS "log" = some (some (.int 2000 t_LIMITS_log)))
    (v_LIMITS_signs : PySem.W.nsIn K a_LIMITS "signs" = some (some (.int 2000 t_LIMITS_signs)))
    (c_OUT : PySem.W.nsIn K mainGlobals "OUT" = some (some (.int (-1) t_OUT)))
    (c_TOLD : PySem.W.nsIn K mainGlobals "TOLD" = some (some (.ref a_TOLD)))
    (l_TOLD : K.lookup a_TOLD = some ⟨.type "dict", none, .dict e_TOLD n_TOLD, #[]⟩)
    (kl_TOLD : PySem.W.KeysLit w.params (e_TOLD).toList)
    (v_TOLD_blocks : PySem.W.nsIn K a_TOLD "blocks" = some (some (.str "depth" t_TOLD_blocks)))
    (v_TOLD_states : PySem.W.nsIn K a_TOLD "states" = some (some (.str "variables" t_TOLD_states)))
    (v_TOLD_housemeetings : PySem.W.nsIn K a_TOLD "housemeetings" = some (some (.str "meetings" t_TOLD_housemeetings)))
    (n_Prizes_ladder_kept : PySem.W.findIn K (.ref a_Prizes) "ladder_kept" = some none)
    (n_Prizes_win_list : PySem.W.findIn K (.ref a_Prizes) "win_list" = some none)
    (n_Prizes_lose_list : PySem.W.findIn K (.ref a_Prizes) "lose_list" = some none)
    (n_Ladder_lanes_number : PySem.W.findIn K (.ref a_Ladder) "lanes_number" = some none)
    (n_Ladder_falls_list : PySem.W.findIn K (.ref a_Ladder) "falls_list" = some none)
    (n_Ladder_returns_kept : PySem.W.findIn K (.ref a_Ladder) "returns_kept" = some none)
    (n_Ladder_loads_table : PySem.W.findIn K (.ref a_Ladder) "loads_table" = some none)
    (n_Ladder_heads_list : PySem.W.findIn K (.ref a_Ladder) "heads_list" = some none)
    (n_Ladder_worths_list : PySem.W.findIn K (.ref a_Ladder) "worths_list" = some none)
    (g_BadLadder : PySem.W.nsIn K mainGlobals "BadLadder" = some (some (.ref a_BadLadder)))
    (xl_BadLadder : K.lookup a_BadLadder = some (excClassObj nm_BadLadder q_BadLadder a_BadLadder N_BadLadder bs_BadLadder bm_BadLadder true sn_BadLadder sub_BadLadder ab_BadLadder col_BadLadder dd_BadLadder k0_BadLadder k1_BadLadder k2_BadLadder k3_BadLadder k5_BadLadder "ValueError.__new__"))
    (rv_BadLadder : PySem.HandSPX.refsVE bm_BadLadder = true)
    (sa_BadLadder : PySem.W.findIn K (.ref a_BadLadder) "__setattr__" = some (some (.builtin "object.__setattr__")))
    (ec_BadLadder : PySem.W.subIn K (.ref a_BadLadder) (.type "BaseException") = some true)
    (ty_BadLadder : PySem.W.typeIn K (.ref a_BadLadder) = some (.type "type"))
    (kc_BadLadder : PySem.W.keepIn K (.ref a_BadLadder) = true)
    (ga_BadLadder : PySem.W.findIn K (.ref a_BadLadder) "__getattribute__" = some (some (.builtin "BaseException.__getattribute__")))
    (gg_BadLadder : PySem.W.findIn K (.ref a_BadLadder) "__getattr__" = some none)
    (hd_BadLadder : PySem.W.hasDictIn K a_BadLadder = true)
    (ic_BadLadder : PySem.W.isClsIn K a_BadLadder = true)
    (ss_BadLadder : PySem.W.subIn K (.ref a_BadLadder) (.ref a_BadLadder) = some true)
    (n_BadLadder_rung : PySem.W.findIn K (.ref a_BadLadder) "rung" = some none)
    (g_BadTable : PySem.W.nsIn K mainGlobals "BadTable" = some (some (.ref a_BadTable)))
    (xl_BadTable : K.lookup a_BadTable = some (excClassObj nm_BadTable q_BadTable a_BadTable N_BadTable bs_BadTable bm_BadTable true sn_BadTable sub_BadTable ab_BadTable col_BadTable dd_BadTable k0_BadTable k1_BadTable k2_BadTable k3_BadTable k5_BadTable "ValueError.__new__"))
    (rv_BadTable : PySem.HandSPX.refsVE bm_BadTable = true)
    (sa_BadTable : PySem.W.findIn K (.ref a_BadTable) "__setattr__" = some (some (.builtin "object.__setattr__")))
    (ec_BadTable : PySem.W.subIn K (.ref a_BadTable) (.type "BaseException") = some true)
    (ty_BadTable : PySem.W.typeIn K (.ref a_BadTable) = some (.type "type"))
    (kc_BadTable : PySem.W.keepIn K (.ref a_BadTable) = true)
    (ga_BadTable : PySem.W.findIn K (.ref a_BadTable) "__getattribute__" = some (some (.builtin "BaseException.__getattribute__")))
    (gg_BadTable : PySem.W.findIn K (.ref a_BadTable) "__getattr__" = some none)
    (hd_BadTable : PySem.W.hasDictIn K a_BadTable = true)
    (ic_BadTable : PySem.W.isClsIn K a_BadTable = true)
    (ss_BadTable : PySem.W.subIn K (.ref a_BadTable) (.ref a_BadTable) = some true)
    (n_BadTable_rung : PySem.W.findIn K (.ref a_BadTable) "rung" = some none)
    (g_WinsError : PySem.W.nsIn K mainGlobals "WinsError" = some (some (.ref a_WinsError)))
    (wg_WinsError : PySem.W.specialIn K (.ref a_WinsError) "__getattribute__" = some (some (.builtin "type.__getattribute__")))
    (wr_WinsError : PySem.W.readsIn K a_WinsError (.type "type") = true)
    (wv_WinsError : PySem.W.findCls K (.ref a_WinsError) (.type "type") "__init__" = some (.val (.builtin "ValueError.__init__")))
    (g_TooMany : PySem.W.nsIn K mainGlobals "TooMany" = some (some (.ref a_TooMany)))
    (g_BadDemand : PySem.W.nsIn K mainGlobals "BadDemand" = some (some (.ref a_BadDemand)))
    (g_BadText : PySem.W.nsIn K mainGlobals "BadText" = some (some (.ref a_BadText)))
    (g_BadSeason : PySem.W.nsIn K mainGlobals "BadSeason" = some (some (.ref a_BadSeason)))
    (g_BadCode : PySem.W.nsIn K mainGlobals "BadCode" = some (some (.ref a_BadCode)))
    (g_BadEvent : PySem.W.nsIn K mainGlobals "BadEvent" = some (some (.ref a_BadEvent)))
    (g_BadFoe : PySem.W.nsIn K mainGlobals "BadFoe" = some (some (.ref a_BadFoe)))
    (g_BadPaper : PySem.W.nsIn K mainGlobals "BadPaper" = some (some (.ref a_BadPaper)))
    (g_BadDisk : PySem.W.nsIn K mainGlobals "BadDisk" = some (some (.ref a_BadDisk)))
    (g_BadDeed : PySem.W.nsIn K mainGlobals "BadDeed" = some (some (.ref a_BadDeed)))
    (xc_BadLadder : PySem.W.findIn K (.ref a_BadLadder) "__class__" = some (some (.builtin "object.__class__")))
    (xg_BadLadder : PySem.W.specialIn K (.builtin "object.__class__") "__get__" = some (some (.builtin "getset_descriptor.__get__")))
    (xt_BadLadder : PySem.W.takesIn K (.builtin "object.__class__") = some true)
    (xm_BadLadder : PySem.W.mroIn K a_BadLadder (.type "object") = some true)
    (ki_BadLadder_TooMany : PySem.W.kitOne K (.ref a_BadLadder) (.ref a_TooMany) = some false)
    (ki_BadLadder_BadLadder : PySem.W.kitOne K (.ref a_BadLadder) (.ref a_BadLadder) = some true)
    (ki_BadLadder_BadTable : PySem.W.kitOne K (.ref a_BadLadder) (.ref a_BadTable) = some false)
    (ki_BadLadder_BadDemand : PySem.W.kitOne K (.ref a_BadLadder) (.ref a_BadDemand) = some false)
    (ki_BadLadder_ValueError : PySem.W.kitOne K (.ref a_BadLadder) (.type "ValueError") = some true)
    (ka_BadLadder_0 : PySem.W.kitAny K (.ref a_BadLadder) [.ref a_BadText, .ref a_BadSeason, .ref a_BadCode, .ref a_BadEvent, .ref a_BadFoe, .ref a_BadPaper, .ref a_BadDisk, .ref a_BadDeed] = some false)
    (mm_BadLadder_WinsError : PySem.W.exmOne K (.ref a_BadLadder) (.ref a_WinsError) = some true)
    (xc_BadTable : PySem.W.findIn K (.ref a_BadTable) "__class__" = some (some (.builtin "object.__class__")))
    (xg_BadTable : PySem.W.specialIn K (.builtin "object.__class__") "__get__" = some (some (.builtin "getset_descriptor.__get__")))
    (xt_BadTable : PySem.W.takesIn K (.builtin "object.__class__") = some true)
    (xm_BadTable : PySem.W.mroIn K a_BadTable (.type "object") = some true)
    (ki_BadTable_TooMany : PySem.W.kitOne K (.ref a_BadTable) (.ref a_TooMany) = some false)
    (ki_BadTable_BadLadder : PySem.W.kitOne K (.ref a_BadTable) (.ref a_BadLadder) = some false)
    (ki_BadTable_BadTable : PySem.W.kitOne K (.ref a_BadTable) (.ref a_BadTable) = some true)
    (ki_BadTable_BadDemand : PySem.W.kitOne K (.ref a_BadTable) (.ref a_BadDemand) = some false)
    (ki_BadTable_ValueError : PySem.W.kitOne K (.ref a_BadTable) (.type "ValueError") = some true)
    (ka_BadTable_0 : PySem.W.kitAny K (.ref a_BadTable) [.ref a_BadText, .ref a_BadSeason, .ref a_BadCode, .ref a_BadEvent, .ref a_BadFoe, .ref a_BadPaper, .ref a_BadDisk, .ref a_BadDeed] = some false)
    (mm_BadTable_WinsError : PySem.W.exmOne K (.ref a_BadTable) (.ref a_WinsError) = some true)
    (at_BadLadder_init : PySem.W.findIn K (.ref a_BadLadder) "__init__" = some (some (.ref f_BadLadder_init)))
    (tf_BadLadder_init : PySem.W.typeIn K (.ref f_BadLadder_init) = some (.type "function"))
    (lk_BadLadder_init : K.lookup f_BadLadder_init = some ⟨oc_BadLadder_init, od_BadLadder_init, .func (PySem.W.fnOf "__init__" "BadLadder.__init__" (defArgs st_BadLadder_init) (defBody st_BadLadder_init) (defScope st_BadLadder_init) .none kV_BadLadder_init dc_BadLadder_init pm_BadLadder_init an_BadLadder_init cd_BadLadder_init ct_BadLadder_init), sl_BadLadder_init⟩)
    (co_BadLadder_init : PySem.W.codeIn K cd_BadLadder_init "BadLadder.__init__" = true)
    (kp_BadLadder_init : PySem.W.keepIn K (.ref f_BadLadder_init) = true)
    (at_BadTable_init : PySem.W.findIn K (.ref a_BadTable) "__init__" = some (some (.ref f_BadTable_init)))
    (tf_BadTable_init : PySem.W.typeIn K (.ref f_BadTable_init) = some (.type "function"))
    (lk_BadTable_init : K.lookup f_BadTable_init = some ⟨oc_BadTable_init, od_BadTable_init, .func (PySem.W.fnOf "__init__" "BadTable.__init__" (defArgs st_BadTable_init) (defBody st_BadTable_init) (defScope st_BadTable_init) .none kV_BadTable_init dc_BadTable_init pm_BadTable_init an_BadTable_init cd_BadTable_init ct_BadTable_init), sl_BadTable_init⟩)
    (co_BadTable_init : PySem.W.codeIn K cd_BadTable_init "BadTable.__init__" = true)
    (kp_BadTable_init : PySem.W.keepIn K (.ref f_BadTable_init) = true)
    (at_common : PySem.W.nsIn K mainGlobals "common" = some (some (.ref f_common)))
    (lk_common : K.lookup f_common = some ⟨oc_common, od_common, .func (PySem.W.fnOf "common" "common" (defArgs st_common) (defBody st_common) (defScope st_common) .none kV_common dc_common pm_common an_common cd_common ct_common), sl_common⟩)
    (co_common : PySem.W.codeIn K cd_common "common" = true)
    (kp_common : PySem.W.keepIn K (.ref f_common) = true)
    (at_fraction : PySem.W.nsIn K mainGlobals "fraction" = some (some (.ref f_fraction)))
    (lk_fraction : K.lookup f_fraction = some ⟨oc_fraction, od_fraction, .func (PySem.W.fnOf "fraction" "fraction" (defArgs st_fraction) (defBody st_fraction) (defScope st_fraction) .none kV_fraction dc_fraction pm_fraction an_fraction cd_fraction ct_fraction), sl_fraction⟩)
    (co_fraction : PySem.W.codeIn K cd_fraction "fraction" = true)
    (kp_fraction : PySem.W.keepIn K (.ref f_fraction) = true)
    (at_taken : PySem.W.nsIn K mainGlobals "taken" = some (some (.ref f_taken)))
    (lk_taken : K.lookup f_taken = some ⟨oc_taken, od_taken, .func (PySem.W.fnOf "taken" "taken" (defArgs st_taken) (defBody st_taken) (defScope st_taken) .none kV_taken dc_taken pm_taken an_taken cd_taken ct_taken), sl_taken⟩)
    (co_taken : PySem.W.codeIn K cd_taken "taken" = true)
    (kp_taken : PySem.W.keepIn K (.ref f_taken) = true)
    (at_times : PySem.W.nsIn K mainGlobals "times" = some (some (.ref f_times)))
    (lk_times : K.lookup f_times = some ⟨oc_times, od_times, .func (PySem.W.fnOf "times" "times" (defArgs st_times) (defBody st_times) (defScope st_times) .none kV_times dc_times pm_times an_times cd_times ct_times), sl_times⟩)
    (co_times : PySem.W.codeIn K cd_times "times" = true)
    (kp_times : PySem.W.keepIn K (.ref f_times) = true)
    (at_less : PySem.W.nsIn K mainGlobals "less" = some (some (.ref f_less)))
    (lk_less : K.lookup f_less = some ⟨oc_less, od_less, .func (PySem.W.fnOf "less" "less" (defArgs st_less) (defBody st_less) (defScope st_less) .none kV_less dc_less pm_less an_less cd_less ct_less), sl_less⟩)
    (co_less : PySem.W.codeIn K cd_less "less" = true)
    (kp_less : PySem.W.keepIn K (.ref f_less) = true)
    (at_grown : PySem.W.nsIn K mainGlobals "grown" = some (some (.ref f_grown)))
    (lk_grown : K.lookup f_grown = some ⟨oc_grown, od_grown, .func (PySem.W.fnOf "grown" "grown" (defArgs st_grown) (defBody st_grown) (defScope st_grown) .none kV_grown dc_grown pm_grown an_grown cd_grown ct_grown), sl_grown⟩)
    (co_grown : PySem.W.codeIn K cd_grown "grown" = true)
    (kp_grown : PySem.W.keepIn K (.ref f_grown) = true)
    (at_load_rows : PySem.W.nsIn K mainGlobals "load_rows" = some (some (.ref f_load_rows)))
    (lk_load_rows : K.lookup f_load_rows = some ⟨oc_load_rows, od_load_rows, .func (PySem.W.fnOf "load_rows" "load_rows" (defArgs st_load_rows) (defBody st_load_rows) (defScope st_load_rows) .none kV_load_rows dc_load_rows pm_load_rows an_load_rows cd_load_rows ct_load_rows), sl_load_rows⟩)
    (co_load_rows : PySem.W.codeIn K cd_load_rows "load_rows" = true)
    (kp_load_rows : PySem.W.keepIn K (.ref f_load_rows) = true)
    (at_head_row : PySem.W.nsIn K mainGlobals "head_row" = some (some (.ref f_head_row)))
    (lk_head_row : K.lookup f_head_row = some ⟨oc_head_row, od_head_row, .func (PySem.W.fnOf "head_row" "head_row" (defArgs st_head_row) (defBody st_head_row) (defScope st_head_row) .none kV_head_row dc_head_row pm_head_row an_head_row cd_head_row ct_head_row), sl_head_row⟩)
    (co_head_row : PySem.W.codeIn K cd_head_row "head_row" = true)
    (kp_head_row : PySem.W.keepIn K (.ref f_head_row) = true)
    (at_worth_row : PySem.W.nsIn K mainGlobals "worth_row" = some (some (.ref f_worth_row)))
    (lk_worth_row : K.lookup f_worth_row = some ⟨oc_worth_row, od_worth_row, .func (PySem.W.fnOf "worth_row" "worth_row" (defArgs st_worth_row) (defBody st_worth_row) (defScope st_worth_row) .none kV_worth_row dc_worth_row pm_worth_row an_worth_row cd_worth_row ct_worth_row), sl_worth_row⟩)
    (co_worth_row : PySem.W.codeIn K cd_worth_row "worth_row" = true)
    (kp_worth_row : PySem.W.keepIn K (.ref f_worth_row) = true)
    (at_wrong_count : PySem.W.nsIn K mainGlobals "wrong_count" = some (some (.ref f_wrong_count)))
    (lk_wrong_count : K.lookup f_wrong_count = some ⟨oc_wrong_count, od_wrong_count, .func (PySem.W.fnOf "wrong_count" "wrong_count" (defArgs st_wrong_count) (defBody st_wrong_count) (defScope st_wrong_count) .none kV_wrong_count dc_wrong_count pm_wrong_count an_wrong_count cd_wrong_count ct_wrong_count), sl_wrong_count⟩)
    (co_wrong_count : PySem.W.codeIn K cd_wrong_count "wrong_count" = true)
    (kp_wrong_count : PySem.W.keepIn K (.ref f_wrong_count) = true)
    (at_Prizes_init : PySem.W.findIn K (.ref a_Prizes) "__init__" = some (some (.ref f_Prizes_init)))
    (fn_Prizes_init : PySem.W.isFn K (.ref f_Prizes_init) = true)
    (lk_Prizes_init : K.lookup f_Prizes_init = some ⟨oc_Prizes_init, od_Prizes_init, .func (PySem.W.fnOf "__init__" "Prizes.__init__" (defArgs st_Prizes_init) (defBody st_Prizes_init) (defScope st_Prizes_init) .none kV_Prizes_init dc_Prizes_init pm_Prizes_init an_Prizes_init cd_Prizes_init ct_Prizes_init), sl_Prizes_init⟩)
    (co_Prizes_init : PySem.W.codeIn K cd_Prizes_init "Prizes.__init__" = true)
    (kp_Prizes_init : PySem.W.keepIn K (.ref f_Prizes_init) = true)
    (at_Prizes_ladder : PySem.W.findIn K (.ref a_Prizes) "ladder" = some (some (.ref f_Prizes_ladder)))
    (fn_Prizes_ladder : PySem.W.isFn K (.ref f_Prizes_ladder) = true)
    (lk_Prizes_ladder : K.lookup f_Prizes_ladder = some ⟨oc_Prizes_ladder, od_Prizes_ladder, .func (PySem.W.fnOf "ladder" "Prizes.ladder" (defArgs st_Prizes_ladder) (defBody st_Prizes_ladder) (defScope st_Prizes_ladder) .none kV_Prizes_ladder dc_Prizes_ladder pm_Prizes_ladder an_Prizes_ladder cd_Prizes_ladder ct_Prizes_ladder), sl_Prizes_ladder⟩)
    (co_Prizes_ladder : PySem.W.codeIn K cd_Prizes_ladder "Prizes.ladder" = true)
    (kp_Prizes_ladder : PySem.W.keepIn K (.ref f_Prizes_ladder) = true)
    (at_Prizes_win : PySem.W.findIn K (.ref a_Prizes) "win" = some (some (.ref f_Prizes_win)))
    (fn_Prizes_win : PySem.W.isFn K (.ref f_Prizes_win) = true)
    (lk_Prizes_win : K.lookup f_Prizes_win = some ⟨oc_Prizes_win, od_Prizes_win, .func (PySem.W.fnOf "win" "Prizes.win" (defArgs st_Prizes_win) (defBody st_Prizes_win) (defScope st_Prizes_win) .none kV_Prizes_win dc_Prizes_win pm_Prizes_win an_Prizes_win cd_Prizes_win ct_Prizes_win), sl_Prizes_win⟩)
    (co_Prizes_win : PySem.W.codeIn K cd_Prizes_win "Prizes.win" = true)
    (kp_Prizes_win : PySem.W.keepIn K (.ref f_Prizes_win) = true)
    (at_Prizes_lose : PySem.W.findIn K (.ref a_Prizes) "lose" = some (some (.ref f_Prizes_lose)))
    (fn_Prizes_lose : PySem.W.isFn K (.ref f_Prizes_lose) = true)
    (lk_Prizes_lose : K.lookup f_Prizes_lose = some ⟨oc_Prizes_lose, od_Prizes_lose, .func (PySem.W.fnOf "lose" "Prizes.lose" (defArgs st_Prizes_lose) (defBody st_Prizes_lose) (defScope st_Prizes_lose) .none kV_Prizes_lose dc_Prizes_lose pm_Prizes_lose an_Prizes_lose cd_Prizes_lose ct_Prizes_lose), sl_Prizes_lose⟩)
    (co_Prizes_lose : PySem.W.codeIn K cd_Prizes_lose "Prizes.lose" = true)
    (kp_Prizes_lose : PySem.W.keepIn K (.ref f_Prizes_lose) = true)
    (at_Prizes_per_meeting : PySem.W.findIn K (.ref a_Prizes) "per_meeting" = some (some (.ref f_Prizes_per_meeting)))
    (fn_Prizes_per_meeting : PySem.W.isFn K (.ref f_Prizes_per_meeting) = true)
    (lk_Prizes_per_meeting : K.lookup f_Prizes_per_meeting = some ⟨oc_Prizes_per_meeting, od_Prizes_per_meeting, .func (PySem.W.fnOf "per_meeting" "Prizes.per_meeting" (defArgs st_Prizes_per_meeting) (defBody st_Prizes_per_meeting) (defScope st_Prizes_per_meeting) .none kV_Prizes_per_meeting dc_Prizes_per_meeting pm_Prizes_per_meeting an_Prizes_per_meeting cd_Prizes_per_meeting ct_Prizes_per_meeting), sl_Prizes_per_meeting⟩)
    (co_Prizes_per_meeting : PySem.W.codeIn K cd_Prizes_per_meeting "Prizes.per_meeting" = true)
    (kp_Prizes_per_meeting : PySem.W.keepIn K (.ref f_Prizes_per_meeting) = true)
    (at_Prizes_sums : PySem.W.findIn K (.ref a_Prizes) "sums" = some (some (.ref f_Prizes_sums)))
    (fn_Prizes_sums : PySem.W.isFn K (.ref f_Prizes_sums) = true)
    (lk_Prizes_sums : K.lookup f_Prizes_sums = some ⟨oc_Prizes_sums, od_Prizes_sums, .func (PySem.W.fnOf "sums" "Prizes.sums" (defArgs st_Prizes_sums) (defBody st_Prizes_sums) (defScope st_Prizes_sums) .none kV_Prizes_sums dc_Prizes_sums pm_Prizes_sums an_Prizes_sums cd_Prizes_sums ct_Prizes_sums), sl_Prizes_sums⟩)
    (co_Prizes_sums : PySem.W.codeIn K cd_Prizes_sums "Prizes.sums" = true)
    (kp_Prizes_sums : PySem.W.keepIn K (.ref f_Prizes_sums) = true)
    (at_Prizes_claims : PySem.W.findIn K (.ref a_Prizes) "claims" = some (some (.ref f_Prizes_claims)))
    (fn_Prizes_claims : PySem.W.isFn K (.ref f_Prizes_claims) = true)
    (lk_Prizes_claims : K.lookup f_Prizes_claims = some ⟨oc_Prizes_claims, od_Prizes_claims, .func (PySem.W.fnOf "claims" "Prizes.claims" (defArgs st_Prizes_claims) (defBody st_Prizes_claims) (defScope st_Prizes_claims) .none kV_Prizes_claims dc_Prizes_claims pm_Prizes_claims an_Prizes_claims cd_Prizes_claims ct_Prizes_claims), sl_Prizes_claims⟩)
    (co_Prizes_claims : PySem.W.codeIn K cd_Prizes_claims "Prizes.claims" = true)
    (kp_Prizes_claims : PySem.W.keepIn K (.ref f_Prizes_claims) = true)
    (at_Prizes_fair_entry : PySem.W.findIn K (.ref a_Prizes) "fair_entry" = some (some (.ref f_Prizes_fair_entry)))
    (fn_Prizes_fair_entry : PySem.W.isFn K (.ref f_Prizes_fair_entry) = true)
    (lk_Prizes_fair_entry : K.lookup f_Prizes_fair_entry = some ⟨oc_Prizes_fair_entry, od_Prizes_fair_entry, .func (PySem.W.fnOf "fair_entry" "Prizes.fair_entry" (defArgs st_Prizes_fair_entry) (defBody st_Prizes_fair_entry) (defScope st_Prizes_fair_entry) .none kV_Prizes_fair_entry dc_Prizes_fair_entry pm_Prizes_fair_entry an_Prizes_fair_entry cd_Prizes_fair_entry ct_Prizes_fair_entry), sl_Prizes_fair_entry⟩)
    (co_Prizes_fair_entry : PySem.W.codeIn K cd_Prizes_fair_entry "Prizes.fair_entry" = true)
    (kp_Prizes_fair_entry : PySem.W.keepIn K (.ref f_Prizes_fair_entry) = true)
    (at_Prizes_ruin_after : PySem.W.findIn K (.ref a_Prizes) "ruin_after" = some (some (.ref f_Prizes_ruin_after)))
    (fn_Prizes_ruin_after : PySem.W.isFn K (.ref f_Prizes_ruin_after) = true)
    (lk_Prizes_ruin_after : K.lookup f_Prizes_ruin_after = some ⟨oc_Prizes_ruin_after, od_Prizes_ruin_after, .func (PySem.W.fnOf "ruin_after" "Prizes.ruin_after" (defArgs st_Prizes_ruin_after) (defBody st_Prizes_ruin_after) (defScope st_Prizes_ruin_after) .none kV_Prizes_ruin_after dc_Prizes_ruin_after pm_Prizes_ruin_after an_Prizes_ruin_after cd_Prizes_ruin_after ct_Prizes_ruin_after), sl_Prizes_ruin_after⟩)
    (co_Prizes_ruin_after : PySem.W.codeIn K cd_Prizes_ruin_after "Prizes.ruin_after" = true)
    (kp_Prizes_ruin_after : PySem.W.keepIn K (.ref f_Prizes_ruin_after) = true)
    (at_bound : PySem.W.nsIn K mainGlobals "bound" = some (some (.ref f_bound)))
    (lk_bound : K.lookup f_bound = some ⟨oc_bound, od_bound, .func (PySem.W.fnOf "bound" "bound" (defArgs st_bound) (defBody st_bound) (defScope st_bound) .none kV_bound dc_bound pm_bound an_bound cd_bound ct_bound), sl_bound⟩)
    (co_bound : PySem.W.codeIn K cd_bound "bound" = true)
    (kp_bound : PySem.W.keepIn K (.ref f_bound) = true)
    (at_wrong_rung : PySem.W.nsIn K mainGlobals "wrong_rung" = some (some (.ref f_wrong_rung)))
    (lk_wrong_rung : K.lookup f_wrong_rung = some ⟨oc_wrong_rung, od_wrong_rung, .func (PySem.W.fnOf "wrong_rung" "wrong_rung" (defArgs st_wrong_rung) (defBody st_wrong_rung) (defScope st_wrong_rung) .none kV_wrong_rung dc_wrong_rung pm_wrong_rung an_wrong_rung cd_wrong_rung ct_wrong_rung), sl_wrong_rung⟩)
    (co_wrong_rung : PySem.W.codeIn K cd_wrong_rung "wrong_rung" = true)
    (kp_wrong_rung : PySem.W.keepIn K (.ref f_wrong_rung) = true)
    (at_Ladder_init : PySem.W.findIn K (.ref a_Ladder) "__init__" = some (some (.ref f_Ladder_init)))
    (fn_Ladder_init : PySem.W.isFn K (.ref f_Ladder_init) = true)
    (lk_Ladder_init : K.lookup f_Ladder_init = some ⟨oc_Ladder_init, od_Ladder_init, .func (PySem.W.fnOf "__init__" "Ladder.__init__" (defArgs st_Ladder_init) (defBody st_Ladder_init) (defScope st_Ladder_init) .none kV_Ladder_init dc_Ladder_init pm_Ladder_init an_Ladder_init cd_Ladder_init ct_Ladder_init), sl_Ladder_init⟩)
    (co_Ladder_init : PySem.W.codeIn K cd_Ladder_init "Ladder.__init__" = true)
    (kp_Ladder_init : PySem.W.keepIn K (.ref f_Ladder_init) = true)
    (at_Ladder_same_as : PySem.W.findIn K (.ref a_Ladder) "same_as" = some (some (.ref f_Ladder_same_as)))
    (fn_Ladder_same_as : PySem.W.isFn K (.ref f_Ladder_same_as) = true)
    (lk_Ladder_same_as : K.lookup f_Ladder_same_as = some ⟨oc_Ladder_same_as, od_Ladder_same_as, .func (PySem.W.fnOf "same_as" "Ladder.same_as" (defArgs st_Ladder_same_as) (defBody st_Ladder_same_as) (defScope st_Ladder_same_as) .none kV_Ladder_same_as dc_Ladder_same_as pm_Ladder_same_as an_Ladder_same_as cd_Ladder_same_as ct_Ladder_same_as), sl_Ladder_same_as⟩)
    (co_Ladder_same_as : PySem.W.codeIn K cd_Ladder_same_as "Ladder.same_as" = true)
    (kp_Ladder_same_as : PySem.W.keepIn K (.ref f_Ladder_same_as) = true)
    (at_Ladder_lanes : PySem.W.findIn K (.ref a_Ladder) "lanes" = some (some (.ref f_Ladder_lanes)))
    (fn_Ladder_lanes : PySem.W.isFn K (.ref f_Ladder_lanes) = true)
    (lk_Ladder_lanes : K.lookup f_Ladder_lanes = some ⟨oc_Ladder_lanes, od_Ladder_lanes, .func (PySem.W.fnOf "lanes" "Ladder.lanes" (defArgs st_Ladder_lanes) (defBody st_Ladder_lanes) (defScope st_Ladder_lanes) .none kV_Ladder_lanes dc_Ladder_lanes pm_Ladder_lanes an_Ladder_lanes cd_Ladder_lanes ct_Ladder_lanes), sl_Ladder_lanes⟩)
    (co_Ladder_lanes : PySem.W.codeIn K cd_Ladder_lanes "Ladder.lanes" = true)
    (kp_Ladder_lanes : PySem.W.keepIn K (.ref f_Ladder_lanes) = true)
    (at_Ladder_rungs : PySem.W.findIn K (.ref a_Ladder) "rungs" = some (some (.ref f_Ladder_rungs)))
    (fn_Ladder_rungs : PySem.W.isFn K (.ref f_Ladder_rungs) = true)
    (lk_Ladder_rungs : K.lookup f_Ladder_rungs = some ⟨oc_Ladder_rungs, od_Ladder_rungs, .func (PySem.W.fnOf "rungs" "Ladder.rungs" (defArgs st_Ladder_rungs) (defBody st_Ladder_rungs) (defScope st_Ladder_rungs) .none kV_Ladder_rungs dc_Ladder_rungs pm_Ladder_rungs an_Ladder_rungs cd_Ladder_rungs ct_Ladder_rungs), sl_Ladder_rungs⟩)
    (co_Ladder_rungs : PySem.W.codeIn K cd_Ladder_rungs "Ladder.rungs" = true)
    (kp_Ladder_rungs : PySem.W.keepIn K (.ref f_Ladder_rungs) = true)
    (at_Ladder_falls : PySem.W.findIn K (.ref a_Ladder) "falls" = some (some (.ref f_Ladder_falls)))
    (fn_Ladder_falls : PySem.W.isFn K (.ref f_Ladder_falls) = true)
    (lk_Ladder_falls : K.lookup f_Ladder_falls = some ⟨oc_Ladder_falls, od_Ladder_falls, .func (PySem.W.fnOf "falls" "Ladder.falls" (defArgs st_Ladder_falls) (defBody st_Ladder_falls) (defScope st_Ladder_falls) .none kV_Ladder_falls dc_Ladder_falls pm_Ladder_falls an_Ladder_falls cd_Ladder_falls ct_Ladder_falls), sl_Ladder_falls⟩)
    (co_Ladder_falls : PySem.W.codeIn K cd_Ladder_falls "Ladder.falls" = true)
    (kp_Ladder_falls : PySem.W.keepIn K (.ref f_Ladder_falls) = true)
    (at_Ladder_returns : PySem.W.findIn K (.ref a_Ladder) "returns" = some (some (.ref f_Ladder_returns)))
    (fn_Ladder_returns : PySem.W.isFn K (.ref f_Ladder_returns) = true)
    (lk_Ladder_returns : K.lookup f_Ladder_returns = some ⟨oc_Ladder_returns, od_Ladder_returns, .func (PySem.W.fnOf "returns" "Ladder.returns" (defArgs st_Ladder_returns) (defBody st_Ladder_returns) (defScope st_Ladder_returns) .none kV_Ladder_returns dc_Ladder_returns pm_Ladder_returns an_Ladder_returns cd_Ladder_returns ct_Ladder_returns), sl_Ladder_returns⟩)
    (co_Ladder_returns : PySem.W.codeIn K cd_Ladder_returns "Ladder.returns" = true)
    (kp_Ladder_returns : PySem.W.keepIn K (.ref f_Ladder_returns) = true)
    (at_Ladder_check_rung : PySem.W.findIn K (.ref a_Ladder) "check_rung" = some (some (.ref f_Ladder_check_rung)))
    (fn_Ladder_check_rung : PySem.W.isFn K (.ref f_Ladder_check_rung) = true)
    (lk_Ladder_check_rung : K.lookup f_Ladder_check_rung = some ⟨oc_Ladder_check_rung, od_Ladder_check_rung, .func (PySem.W.fnOf "check_rung" "Ladder.check_rung" (defArgs st_Ladder_check_rung) (defBody st_Ladder_check_rung) (defScope st_Ladder_check_rung) .none kV_Ladder_check_rung dc_Ladder_check_rung pm_Ladder_check_rung an_Ladder_check_rung cd_Ladder_check_rung ct_Ladder_check_rung), sl_Ladder_check_rung⟩)
    (co_Ladder_check_rung : PySem.W.codeIn K cd_Ladder_check_rung "Ladder.check_rung" = true)
    (kp_Ladder_check_rung : PySem.W.keepIn K (.ref f_Ladder_check_rung) = true)
    (at_Ladder_check_place : PySem.W.findIn K (.ref a_Ladder) "check_place" = some (some (.ref f_Ladder_check_place)))
    (fn_Ladder_check_place : PySem.W.isFn K (.ref f_Ladder_check_place) = true)
    (lk_Ladder_check_place : K.lookup f_Ladder_check_place = some ⟨oc_Ladder_check_place, od_Ladder_check_place, .func (PySem.W.fnOf "check_place" "Ladder.check_place" (defArgs st_Ladder_check_place) (defBody st_Ladder_check_place) (defScope st_Ladder_check_place) .none kV_Ladder_check_place dc_Ladder_check_place pm_Ladder_check_place an_Ladder_check_place cd_Ladder_check_place ct_Ladder_check_place), sl_Ladder_check_place⟩)
    (co_Ladder_check_place : PySem.W.codeIn K cd_Ladder_check_place "Ladder.check_place" = true)
    (kp_Ladder_check_place : PySem.W.keepIn K (.ref f_Ladder_check_place) = true)
    (at_Ladder_fall : PySem.W.findIn K (.ref a_Ladder) "fall" = some (some (.ref f_Ladder_fall)))
    (fn_Ladder_fall : PySem.W.isFn K (.ref f_Ladder_fall) = true)
    (lk_Ladder_fall : K.lookup f_Ladder_fall = some ⟨oc_Ladder_fall, od_Ladder_fall, .func (PySem.W.fnOf "fall" "Ladder.fall" (defArgs st_Ladder_fall) (defBody st_Ladder_fall) (defScope st_Ladder_fall) .none kV_Ladder_fall dc_Ladder_fall pm_Ladder_fall an_Ladder_fall cd_Ladder_fall ct_Ladder_fall), sl_Ladder_fall⟩)
    (co_Ladder_fall : PySem.W.codeIn K cd_Ladder_fall "Ladder.fall" = true)
    (kp_Ladder_fall : PySem.W.keepIn K (.ref f_Ladder_fall) = true)
    (at_Ladder_heads : PySem.W.findIn K (.ref a_Ladder) "heads" = some (some (.ref f_Ladder_heads)))
    (fn_Ladder_heads : PySem.W.isFn K (.ref f_Ladder_heads) = true)
    (lk_Ladder_heads : K.lookup f_Ladder_heads = some ⟨oc_Ladder_heads, od_Ladder_heads, .func (PySem.W.fnOf "heads" "Ladder.heads" (defArgs st_Ladder_heads) (defBody st_Ladder_heads) (defScope st_Ladder_heads) .none kV_Ladder_heads dc_Ladder_heads pm_Ladder_heads an_Ladder_heads cd_Ladder_heads ct_Ladder_heads), sl_Ladder_heads⟩)
    (co_Ladder_heads : PySem.W.codeIn K cd_Ladder_heads "Ladder.heads" = true)
    (kp_Ladder_heads : PySem.W.keepIn K (.ref f_Ladder_heads) = true)
    (at_Ladder_weights : PySem.W.findIn K (.ref a_Ladder) "weights" = some (some (.ref f_Ladder_weights)))
    (fn_Ladder_weights : PySem.W.isFn K (.ref f_Ladder_weights) = true)
    (lk_Ladder_weights : K.lookup f_Ladder_weights = some ⟨oc_Ladder_weights, od_Ladder_weights, .func (PySem.W.fnOf "weights" "Ladder.weights" (defArgs st_Ladder_weights) (defBody st_Ladder_weights) (defScope st_Ladder_weights) .none kV_Ladder_weights dc_Ladder_weights pm_Ladder_weights an_Ladder_weights cd_Ladder_weights ct_Ladder_weights), sl_Ladder_weights⟩)
    (co_Ladder_weights : PySem.W.codeIn K cd_Ladder_weights "Ladder.weights" = true)
    (kp_Ladder_weights : PySem.W.keepIn K (.ref f_Ladder_weights) = true)
    (at_law_e_named : PySem.W.nsIn K mainGlobals "_law_e_named" = some (some (.ref f_law_e_named)))
    (lk_law_e_named : K.lookup f_law_e_named = some ⟨oc_law_e_named, od_law_e_named, .func (PySem.W.fnOf "_law_e_named" "_law_e_named" (defArgs st_law_e_named) (defBody st_law_e_named) (defScope st_law_e_named) .none kV_law_e_named dc_law_e_named pm_law_e_named an_law_e_named cd_law_e_named ct_law_e_named), sl_law_e_named⟩)
    (co_law_e_named : PySem.W.codeIn K cd_law_e_named "_law_e_named" = true)
    (kp_law_e_named : PySem.W.keepIn K (.ref f_law_e_named) = true)
    (at_law_e_asked : PySem.W.nsIn K mainGlobals "_law_e_asked" = some (some (.ref f_law_e_asked)))
    (lk_law_e_asked : K.lookup f_law_e_asked = some ⟨oc_law_e_asked, od_law_e_asked, .func (PySem.W.fnOf "_law_e_asked" "_law_e_asked" (defArgs st_law_e_asked) (defBody st_law_e_asked) (defScope st_law_e_asked) .none kV_law_e_asked dc_law_e_asked pm_law_e_asked an_law_e_asked cd_law_e_asked ct_law_e_asked), sl_law_e_asked⟩)
    (co_law_e_asked : PySem.W.codeIn K cd_law_e_asked "_law_e_asked" = true)
    (kp_law_e_asked : PySem.W.keepIn K (.ref f_law_e_asked) = true)
    (at_law_e_refused : PySem.W.nsIn K mainGlobals "_law_e_refused" = some (some (.ref f_law_e_refused)))
    (lk_law_e_refused : K.lookup f_law_e_refused = some ⟨oc_law_e_refused, od_law_e_refused, .func (PySem.W.fnOf "_law_e_refused" "_law_e_refused" (defArgs st_law_e_refused) (defBody st_law_e_refused) (defScope st_law_e_refused) .none kV_law_e_refused dc_law_e_refused pm_law_e_refused an_law_e_refused cd_law_e_refused ct_law_e_refused), sl_law_e_refused⟩)
    (co_law_e_refused : PySem.W.codeIn K cd_law_e_refused "_law_e_refused" = true)
    (kp_law_e_refused : PySem.W.keepIn K (.ref f_law_e_refused) = true)
    (at_law_e_let : PySem.W.nsIn K mainGlobals "_law_e_let" = some (some (.ref f_law_e_let)))
    (lk_law_e_let : K.lookup f_law_e_let = some ⟨oc_law_e_let, od_law_e_let, .func (PySem.W.fnOf "_law_e_let" "_law_e_let" (defArgs st_law_e_let) (defBody st_law_e_let) (defScope st_law_e_let) .none kV_law_e_let dc_law_e_let pm_law_e_let an_law_e_let cd_law_e_let ct_law_e_let), sl_law_e_let⟩)
    (co_law_e_let : PySem.W.codeIn K cd_law_e_let "_law_e_let" = true)
    (kp_law_e_let : PySem.W.keepIn K (.ref f_law_e_let) = true)
    (at_law_e_falls : PySem.W.nsIn K mainGlobals "_law_e_falls" = some (some (.ref f_law_e_falls)))
    (lk_law_e_falls : K.lookup f_law_e_falls = some ⟨oc_law_e_falls, od_law_e_falls, .func (PySem.W.fnOf "_law_e_falls" "_law_e_falls" (defArgs st_law_e_falls) (defBody st_law_e_falls) (defScope st_law_e_falls) .none kV_law_e_falls dc_law_e_falls pm_law_e_falls an_law_e_falls cd_law_e_falls ct_law_e_falls), sl_law_e_falls⟩)
    (co_law_e_falls : PySem.W.codeIn K cd_law_e_falls "_law_e_falls" = true)
    (kp_law_e_falls : PySem.W.keepIn K (.ref f_law_e_falls) = true)
    (at_law_e_ladder : PySem.W.nsIn K mainGlobals "_law_e_ladder" = some (some (.ref f_law_e_ladder)))
    (lk_law_e_ladder : K.lookup f_law_e_ladder = some ⟨oc_law_e_ladder, od_law_e_ladder, .func (PySem.W.fnOf "_law_e_ladder" "_law_e_ladder" (defArgs st_law_e_ladder) (defBody st_law_e_ladder) (defScope st_law_e_ladder) .none kV_law_e_ladder dc_law_e_ladder pm_law_e_ladder an_law_e_ladder cd_law_e_ladder ct_law_e_ladder), sl_law_e_ladder⟩)
    (co_law_e_ladder : PySem.W.codeIn K cd_law_e_ladder "_law_e_ladder" = true)
    (kp_law_e_ladder : PySem.W.keepIn K (.ref f_law_e_ladder) = true)
    (at_law_e_low : PySem.W.nsIn K mainGlobals "_law_e_low" = some (some (.ref f_law_e_low)))
    (lk_law_e_low : K.lookup f_law_e_low = some ⟨oc_law_e_low, od_law_e_low, .func (PySem.W.fnOf "_law_e_low" "_law_e_low" (defArgs st_law_e_low) (defBody st_law_e_low) (defScope st_law_e_low) .none kV_law_e_low dc_law_e_low pm_law_e_low an_law_e_low cd_law_e_low ct_law_e_low), sl_law_e_low⟩)
    (co_law_e_low : PySem.W.codeIn K cd_law_e_low "_law_e_low" = true)
    (kp_law_e_low : PySem.W.keepIn K (.ref f_law_e_low) = true)
    (at_law_e_loads : PySem.W.nsIn K mainGlobals "_law_e_loads" = some (some (.ref f_law_e_loads)))
    (lk_law_e_loads : K.lookup f_law_e_loads = some ⟨oc_law_e_loads, od_law_e_loads, .func (PySem.W.fnOf "_law_e_loads" "_law_e_loads" (defArgs st_law_e_loads) (defBody st_law_e_loads) (defScope st_law_e_loads) .none kV_law_e_loads dc_law_e_loads pm_law_e_loads an_law_e_loads cd_law_e_loads ct_law_e_loads), sl_law_e_loads⟩)
    (co_law_e_loads : PySem.W.codeIn K cd_law_e_loads "_law_e_loads" = true)
    (kp_law_e_loads : PySem.W.keepIn K (.ref f_law_e_loads) = true)
    (at_law_e_heads : PySem.W.nsIn K mainGlobals "_law_e_heads" = some (some (.ref f_law_e_heads)))
    (lk_law_e_heads : K.lookup f_law_e_heads = some ⟨oc_law_e_heads, od_law_e_heads, .func (PySem.W.fnOf "_law_e_heads" "_law_e_heads" (defArgs st_law_e_heads) (defBody st_law_e_heads) (defScope st_law_e_heads) .none kV_law_e_heads dc_law_e_heads pm_law_e_heads an_law_e_heads cd_law_e_heads ct_law_e_heads), sl_law_e_heads⟩)
    (co_law_e_heads : PySem.W.codeIn K cd_law_e_heads "_law_e_heads" = true)
    (kp_law_e_heads : PySem.W.keepIn K (.ref f_law_e_heads) = true)
    (at_law_e_common : PySem.W.nsIn K mainGlobals "_law_e_common" = some (some (.ref f_law_e_common)))
    (lk_law_e_common : K.lookup f_law_e_common = some ⟨oc_law_e_common, od_law_e_common, .func (PySem.W.fnOf "_law_e_common" "_law_e_common" (defArgs st_law_e_common) (defBody st_law_e_common) (defScope st_law_e_common) .none kV_law_e_common dc_law_e_common pm_law_e_common an_law_e_common cd_law_e_common ct_law_e_common), sl_law_e_common⟩)
    (co_law_e_common : PySem.W.codeIn K cd_law_e_common "_law_e_common" = true)
    (kp_law_e_common : PySem.W.keepIn K (.ref f_law_e_common) = true)
    (at_law_e_fraction : PySem.W.nsIn K mainGlobals "_law_e_fraction" = some (some (.ref f_law_e_fraction)))
    (lk_law_e_fraction : K.lookup f_law_e_fraction = some ⟨oc_law_e_fraction, od_law_e_fraction, .func (PySem.W.fnOf "_law_e_fraction" "_law_e_fraction" (defArgs st_law_e_fraction) (defBody st_law_e_fraction) (defScope st_law_e_fraction) .none kV_law_e_fraction dc_law_e_fraction pm_law_e_fraction an_law_e_fraction cd_law_e_fraction ct_law_e_fraction), sl_law_e_fraction⟩)
    (co_law_e_fraction : PySem.W.codeIn K cd_law_e_fraction "_law_e_fraction" = true)
    (kp_law_e_fraction : PySem.W.keepIn K (.ref f_law_e_fraction) = true)
    (at_law_stock : PySem.W.nsIn K mainGlobals "_law_stock" = some (some (.ref f_law_stock)))
    (lk_law_stock : K.lookup f_law_stock = some ⟨oc_law_stock, od_law_stock, .func (PySem.W.fnOf "_law_stock" "_law_stock" (defArgs st_law_stock) (defBody st_law_stock) (defScope st_law_stock) .none kV_law_stock dc_law_stock pm_law_stock an_law_stock cd_law_stock ct_law_stock), sl_law_stock⟩)
    (co_law_stock : PySem.W.codeIn K cd_law_stock "_law_stock" = true)
    (kp_law_stock : PySem.W.keepIn K (.ref f_law_stock) = true)
    (at_law_draw : PySem.W.nsIn K mainGlobals "_law_draw" = some (some (.ref f_law_draw)))
    (lk_law_draw : K.lookup f_law_draw = some ⟨oc_law_draw, od_law_draw, .func (PySem.W.fnOf "_law_draw" "_law_draw" (defArgs st_law_draw) (defBody st_law_draw) (defScope st_law_draw) .none kV_law_draw dc_law_draw pm_law_draw an_law_draw cd_law_draw ct_law_draw), sl_law_draw⟩)
    (co_law_draw : PySem.W.codeIn K cd_law_draw "_law_draw" = true)
    (kp_law_draw : PySem.W.keepIn K (.ref f_law_draw) = true)
    (at_law_matches : PySem.W.nsIn K mainGlobals "_law_matches" = some (some (.ref f_law_matches)))
    (lk_law_matches : K.lookup f_law_matches = some ⟨oc_law_matches, od_law_matches, .func (PySem.W.fnOf "_law_matches" "_law_matches" (defArgs st_law_matches) (defBody st_law_matches) (defScope st_law_matches) .none kV_law_matches dc_law_matches pm_law_matches an_law_matches cd_law_matches ct_law_matches), sl_law_matches⟩)
    (co_law_matches : PySem.W.codeIn K cd_law_matches "_law_matches" = true)
    (kp_law_matches : PySem.W.keepIn K (.ref f_law_matches) = true)
    (at_law_k30_paid : PySem.W.nsIn K mainGlobals "_law_k30_paid" = some (some (.ref f_law_k30_paid)))
    (lk_law_k30_paid : K.lookup f_law_k30_paid = some ⟨oc_law_k30_paid, od_law_k30_paid, .func (PySem.W.fnOf "_law_k30_paid" "_law_k30_paid" (defArgs st_law_k30_paid) (defBody st_law_k30_paid) (defScope st_law_k30_paid) .none kV_law_k30_paid dc_law_k30_paid pm_law_k30_paid an_law_k30_paid cd_law_k30_paid ct_law_k30_paid), sl_law_k30_paid⟩)
    (co_law_k30_paid : PySem.W.codeIn K cd_law_k30_paid "_law_k30_paid" = true)
    (kp_law_k30_paid : PySem.W.keepIn K (.ref f_law_k30_paid) = true)
    (at_law_k30_claims : PySem.W.nsIn K mainGlobals "_law_k30_claims" = some (some (.ref f_law_k30_claims)))
    (lk_law_k30_claims : K.lookup f_law_k30_claims = some ⟨oc_law_k30_claims, od_law_k30_claims, .func (PySem.W.fnOf "_law_k30_claims" "_law_k30_claims" (defArgs st_law_k30_claims) (defBody st_law_k30_claims) (defScope st_law_k30_claims) .none kV_law_k30_claims dc_law_k30_claims pm_law_k30_claims an_law_k30_claims cd_law_k30_claims ct_law_k30_claims), sl_law_k30_claims⟩)
    (co_law_k30_claims : PySem.W.codeIn K cd_law_k30_claims "_law_k30_claims" = true)
    (kp_law_k30_claims : PySem.W.keepIn K (.ref f_law_k30_claims) = true)
    (at_law_k30_fair : PySem.W.nsIn K mainGlobals "_law_k30_fair" = some (some (.ref f_law_k30_fair)))
    (lk_law_k30_fair : K.lookup f_law_k30_fair = some ⟨oc_law_k30_fair, od_law_k30_fair, .func (PySem.W.fnOf "_law_k30_fair" "_law_k30_fair" (defArgs st_law_k30_fair) (defBody st_law_k30_fair) (defScope st_law_k30_fair) .none kV_law_k30_fair dc_law_k30_fair pm_law_k30_fair an_law_k30_fair cd_law_k30_fair ct_law_k30_fair), sl_law_k30_fair⟩)
    (co_law_k30_fair : PySem.W.codeIn K cd_law_k30_fair "_law_k30_fair" = true)
    (kp_law_k30_fair : PySem.W.keepIn K (.ref f_law_k30_fair) = true)
    (at_law_k30_tellers : PySem.W.nsIn K mainGlobals "_law_k30_tellers" = some (some (.ref f_law_k30_tellers)))
    (lk_law_k30_tellers : K.lookup f_law_k30_tellers = some ⟨oc_law_k30_tellers, od_law_k30_tellers, .func (PySem.W.fnOf "_law_k30_tellers" "_law_k30_tellers" (defArgs st_law_k30_tellers) (defBody st_law_k30_tellers) (defScope st_law_k30_tellers) .none kV_law_k30_tellers dc_law_k30_tellers pm_law_k30_tellers an_law_k30_tellers cd_law_k30_tellers ct_law_k30_tellers), sl_law_k30_tellers⟩)
    (co_law_k30_tellers : PySem.W.codeIn K cd_law_k30_tellers "_law_k30_tellers" = true)
    (kp_law_k30_tellers : PySem.W.keepIn K (.ref f_law_k30_tellers) = true)
    (at_law_k30_ruin : PySem.W.nsIn K mainGlobals "_law_k30_ruin" = some (some (.ref f_law_k30_ruin)))
    (lk_law_k30_ruin : K.lookup f_law_k30_ruin = some ⟨oc_law_k30_ruin, od_law_k30_ruin, .func (PySem.W.fnOf "_law_k30_ruin" "_law_k30_ruin" (defArgs st_law_k30_ruin) (defBody st_law_k30_ruin) (defScope st_law_k30_ruin) .none kV_law_k30_ruin dc_law_k30_ruin pm_law_k30_ruin an_law_k30_ruin cd_law_k30_ruin ct_law_k30_ruin), sl_law_k30_ruin⟩)
    (co_law_k30_ruin : PySem.W.codeIn K cd_law_k30_ruin "_law_k30_ruin" = true)
    (kp_law_k30_ruin : PySem.W.keepIn K (.ref f_law_k30_ruin) = true)
    (at_law_k30_entries : PySem.W.nsIn K mainGlobals "_law_k30_entries" = some (some (.ref f_law_k30_entries)))
    (lk_law_k30_entries : K.lookup f_law_k30_entries = some ⟨oc_law_k30_entries, od_law_k30_entries, .func (PySem.W.fnOf "_law_k30_entries" "_law_k30_entries" (defArgs st_law_k30_entries) (defBody st_law_k30_entries) (defScope st_law_k30_entries) .none kV_law_k30_entries dc_law_k30_entries pm_law_k30_entries an_law_k30_entries cd_law_k30_entries ct_law_k30_entries), sl_law_k30_entries⟩)
    (co_law_k30_entries : PySem.W.codeIn K cd_law_k30_entries "_law_k30_entries" = true)
    (kp_law_k30_entries : PySem.W.keepIn K (.ref f_law_k30_entries) = true)
    (at_law_k30_refusals : PySem.W.nsIn K mainGlobals "_law_k30_refusals" = some (some (.ref f_law_k30_refusals)))
    (lk_law_k30_refusals : K.lookup f_law_k30_refusals = some ⟨oc_law_k30_refusals, od_law_k30_refusals, .func (PySem.W.fnOf "_law_k30_refusals" "_law_k30_refusals" (defArgs st_law_k30_refusals) (defBody st_law_k30_refusals) (defScope st_law_k30_refusals) .none kV_law_k30_refusals dc_law_k30_refusals pm_law_k30_refusals an_law_k30_refusals (.ref c_law_k30_refusals) ct_law_k30_refusals), sl_law_k30_refusals⟩)
    (co_law_k30_refusals : PySem.W.codeIn K (.ref c_law_k30_refusals) "_law_k30_refusals" = true)
    (kp_law_k30_refusals : PySem.W.keepIn K (.ref f_law_k30_refusals) = true)
    (vc_law_k30_refusals : K.lookup c_law_k30_refusals = some ⟨.type "code", vo_law_k30_refusals, .fields vs_law_k30_refusals, vl_law_k30_refusals⟩)
    (v11_law_k30_refusals : (vs_law_k30_refusals[11]? : Option Value) = some (.ref p_law_k30_refusals))
    (hc_law_k30_refusals : PySem.W.codeHdIn K c_law_k30_refusals p_law_k30_refusals = true)
    (nT_law_k30_refusals : K.lookup p_law_k30_refusals = none)
    (tb_law_k30_refusals : h.get? p_law_k30_refusals = some { cls := .none, data := .fields #[] })
    (at_law : PySem.W.nsIn K mainGlobals "law" = some (some (.ref f_law)))
    (lk_law : K.lookup f_law = some ⟨oc_law, od_law, .func (PySem.W.fnOf "law" "law" (defArgs st_law) (defBody st_law) (defScope st_law) .none kV_law dc_law pm_law an_law (.ref c_law) ct_law), sl_law⟩)
    (co_law : PySem.W.codeIn K (.ref c_law) "law" = true)
    (kp_law : PySem.W.keepIn K (.ref f_law) = true)
    (vc_law : K.lookup c_law = some ⟨.type "code", vo_law, .fields vs_law, vl_law⟩)
    (v11_law : (vs_law[11]? : Option Value) = some (.ref p_law))
    (hc_law : PySem.W.codeHdIn K c_law p_law = true)
    (nT_law : K.lookup p_law = none)
    (tb_law : h.get? p_law = some { cls := .none, data := .fields #[] })
    (ne_law_law_k30_refusals : p_law ≠ p_law_k30_refusals) :
    LamX.LawAtS l w K CX0 13 63 "script" mg fa h := by
  have e := hfa.symm.trans (PySem.W.mg_of X G at_law)
  cases e
  have F_BadLadder_init := fun_mk (st := st_BadLadder_init) lk_BadLadder_init co_BadLadder_init kp_BadLadder_init
  have B_BadLadder_init := F_BadLadder_init.binds (ps := ["self", "rung"]) fun _ _ _ _ _ _ us hl => match us, hl with | [_, _], _ => rfl
  have F_BadTable_init := fun_mk (st := st_BadTable_init) lk_BadTable_init co_BadTable_init kp_BadTable_init
  have B_BadTable_init := F_BadTable_init.binds (ps := ["self", "rung"]) fun _ _ _ _ _ _ us hl => match us, hl with | [_, _], _ => rfl
  have F_common := fun_mk (st := st_common) lk_common co_common kp_common
  have B_common := F_common.binds (ps := ["a", "b"]) fun _ _ _ _ _ _ us hl => match us, hl with | [_, _], _ => rfl
  have F_fraction := fun_mk (st := st_fraction) lk_fraction co_fraction kp_fraction
  have B_fraction := F_fraction.binds (ps := ["numerator", "denominator"]) fun _ _ _ _ _ _ us hl => match us, hl with | [_, _], _ => rfl
  have F_taken := fun_mk (st := st_taken) lk_taken co_taken kp_taken
  have B_taken := F_taken.binds (ps := ["one", "other"]) fun _ _ _ _ _ _ us hl => match us, hl with | [_, _], _ => rfl
  have F_times := fun_mk (st := st_times) lk_times co_times kp_times
  have B_times := F_times.binds (ps := ["number", "one"]) fun _ _ _ _ _ _ us hl => match us, hl with | [_, _], _ => rfl
  have F_less := fun_mk (st := st_less) lk_less co_less kp_less
  have B_less := F_less.binds (ps := ["one", "other"]) fun _ _ _ _ _ _ us hl => match us, hl with | [_, _], _ => rfl
  have F_grown := fun_mk (st := st_grown) lk_grown co_grown kp_grown
  have B_grown := F_grown.binds (ps := ["lanes", "falls", "first", "charges"]) fun _ _ _ _ _ _ us hl => match us, hl with | [_, _, _, _], _ => rfl
  have F_load_rows := fun_mk (st := st_load_rows) lk_load_rows co_load_rows kp_load_rows
  have B_load_rows := F_load_rows.binds (ps := ["lanes", "falls"]) fun _ _ _ _ _ _ us hl => match us, hl with | [_, _], _ => rfl
  have F_head_row := fun_mk (st := st_head_row) lk_head_row co_head_row kp_head_row
  have B_head_row := F_head_row.binds (ps := ["lanes", "falls"]) fun _ _ _ _ _ _ us hl => match us, hl with | [_, _], _ => rfl
  have F_worth_row := fun_mk (st := st_worth_row) lk_worth_row co_worth_row kp_worth_row
  have B_worth_row := F_worth_row.binds (ps := ["lanes", "falls"]) fun _ _ _ _ _ _ us hl => match us, hl with | [_, _], _ => rfl
  have F_wrong_count := fun_mk (st := st_wrong_count) lk_wrong_count co_wrong_count kp_wrong_count
  have B_wrong_count := F_wrong_count.binds (ps := ["counts", "rungs"]) fun _ _ _ _ _ _ us hl => match us, hl with | [_, _], _ => rfl
  have F_Prizes_init := fun_mk (st := st_Prizes_init) lk_Prizes_init co_Prizes_init kp_Prizes_init
  have B_Prizes_init := F_Prizes_init.binds (ps := ["self", "ladder", "win", "lose"]) fun _ _ _ _ _ _ us hl => match us, hl with | [_, _, _, _], _ => rfl
  have F_Prizes_ladder := fun_mk (st := st_Prizes_ladder) lk_Prizes_ladder co_Prizes_ladder kp_Prizes_ladder
  have B_Prizes_ladder := F_Prizes_ladder.binds (ps := ["self"]) fun _ _ _ _ _ _ us hl => match us, hl with | [_], _ => rfl
  have F_Prizes_win := fun_mk (st := st_Prizes_win) lk_Prizes_win co_Prizes_win kp_Prizes_win
  have B_Prizes_win := F_Prizes_win.binds (ps := ["self"]) fun _ _ _ _ _ _ us hl => match us, hl with | [_], _ => rfl
  have F_Prizes_lose := fun_mk (st := st_Prizes_lose) lk_Prizes_lose co_Prizes_lose kp_Prizes_lose
  have B_Prizes_lose := F_Prizes_lose.binds (ps := ["self"]) fun _ _ _ _ _ _ us hl => match us, hl with | [_], _ => rfl
  have F_Prizes_per_meeting := fun_mk (st := st_Prizes_per_meeting) lk_Prizes_per_meeting co_Prizes_per_meeting kp_Prizes_per_meeting
  have B_Prizes_per_meeting := F_Prizes_per_meeting.binds (ps := ["self", "a"]) fun _ _ _ _ _ _ us hl => match us, hl with | [_, _], _ => rfl
  have F_Prizes_sums := fun_mk (st := st_Prizes_sums) lk_Prizes_sums co_Prizes_sums kp_Prizes_sums
  have B_Prizes_sums := F_Prizes_sums.binds (ps := ["self"]) fun _ _ _ _ _ _ us hl => match us, hl with | [_], _ => rfl
  have F_Prizes_claims := fun_mk (st := st_Prizes_claims) lk_Prizes_claims co_Prizes_claims kp_Prizes_claims
  have B_Prizes_claims := F_Prizes_claims.binds (ps := ["self", "entry"]) fun _ _ _ _ _ _ us hl => match us, hl with | [_, _], _ => rfl
  have F_Prizes_fair_entry := fun_mk (st := st_Prizes_fair_entry) lk_Prizes_fair_entry co_Prizes_fair_entry kp_Prizes_fair_entry
  have B_Prizes_fair_entry := F_Prizes_fair_entry.binds (ps := ["self"]) fun _ _ _ _ _ _ us hl => match us, hl with | [_], _ => rfl
  have F_Prizes_ruin_after := fun_mk (st := st_Prizes_ruin_after) lk_Prizes_ruin_after co_Prizes_ruin_after kp_Prizes_ruin_after
  have B_Prizes_ruin_after := F_Prizes_ruin_after.binds (ps := ["self", "entry", "in_play"]) fun _ _ _ _ _ _ us hl => match us, hl with | [_, _, _], _ => rfl
  have F_bound := fun_mk (st := st_bound) lk_bound co_bound kp_bound
  have B_bound := F_bound.binds (ps := ["what", "number"]) fun _ _ _ _ _ _ us hl => match us, hl with | [_, _], _ => rfl
  have F_wrong_rung := fun_mk (st := st_wrong_rung) lk_wrong_rung co_wrong_rung kp_wrong_rung
  have B_wrong_rung := F_wrong_rung.binds (ps := ["lanes", "falls"]) fun _ _ _ _ _ _ us hl => match us, hl with | [_, _], _ => rfl
  have F_Ladder_init := fun_mk (st := st_Ladder_init) lk_Ladder_init co_Ladder_init kp_Ladder_init
  have B_Ladder_init := F_Ladder_init.binds (ps := ["self", "lanes", "falls", "returns"]) fun _ _ _ _ _ _ us hl => match us, hl with | [_, _, _, _], _ => rfl
  have F_Ladder_same_as := fun_mk (st := st_Ladder_same_as) lk_Ladder_same_as co_Ladder_same_as kp_Ladder_same_as
  have B_Ladder_same_as := F_Ladder_same_as.binds (ps := ["self", "other"]) fun _ _ _ _ _ _ us hl => match us, hl with | [_, _], _ => rfl
  have F_Ladder_lanes := fun_mk (st := st_Ladder_lanes) lk_Ladder_lanes co_Ladder_lanes kp_Ladder_lanes
  have B_Ladder_lanes := F_Ladder_lanes.binds (ps := ["self"]) fun _ _ _ _ _ _ us hl => match us, hl with | [_], _ => rfl
  have F_Ladder_rungs := fun_mk (st := st_Ladder_rungs) lk_Ladder_rungs co_Ladder_rungs kp_Ladder_rungs
  have B_Ladder_rungs := F_Ladder_rungs.binds (ps := ["self"]) fun _ _ _ _ _ _ us hl => match us, hl with | [_], _ => rfl
  have F_Ladder_falls := fun_mk (st := st_Ladder_falls) lk_Ladder_falls co_Ladder_falls kp_Ladder_falls
  have B_Ladder_falls := F_Ladder_falls.binds (ps := ["self"]) fun _ _ _ _ _ _ us hl => match us, hl with | [_], _ => rfl
  have F_Ladder_returns := fun_mk (st := st_Ladder_returns) lk_Ladder_returns co_Ladder_returns kp_Ladder_returns
  have B_Ladder_returns := F_Ladder_returns.binds (ps := ["self"]) fun _ _ _ _ _ _ us hl => match us, hl with | [_], _ => rfl
  have F_Ladder_check_rung := fun_mk (st := st_Ladder_check_rung) lk_Ladder_check_rung co_Ladder_check_rung kp_Ladder_check_rung
  have B_Ladder_check_rung := F_Ladder_check_rung.binds (ps := ["self", "rung"]) fun _ _ _ _ _ _ us hl => match us, hl with | [_, _], _ => rfl
  have F_Ladder_check_place := fun_mk (st := st_Ladder_check_place) lk_Ladder_check_place co_Ladder_check_place kp_Ladder_check_place
  have B_Ladder_check_place := F_Ladder_check_place.binds (ps := ["self", "place"]) fun _ _ _ _ _ _ us hl => match us, hl with | [_, _], _ => rfl
  have F_Ladder_fall := fun_mk (st := st_Ladder_fall) lk_Ladder_fall co_Ladder_fall kp_Ladder_fall
  have B_Ladder_fall := F_Ladder_fall.binds (ps := ["self", "a"]) fun _ _ _ _ _ _ us hl => match us, hl with | [_, _], _ => rfl
  have F_Ladder_heads := fun_mk (st := st_Ladder_heads) lk_Ladder_heads co_Ladder_heads kp_Ladder_heads
  have B_Ladder_heads := F_Ladder_heads.binds (ps := ["self", "b"]) fun _ _ _ _ _ _ us hl => match us, hl with | [_, _], _ => rfl
  have F_Ladder_weights := fun_mk (st := st_Ladder_weights) lk_Ladder_weights co_Ladder_weights kp_Ladder_weights
  have B_Ladder_weights := F_Ladder_weights.binds (ps := ["self"]) fun _ _ _ _ _ _ us hl => match us, hl with | [_], _ => rfl
  have F_law_e_named := fun_mk (st := st_law_e_named) lk_law_e_named co_law_e_named kp_law_e_named
  have B_law_e_named := F_law_e_named.binds (ps := ["raised"]) fun _ _ _ _ _ _ us hl => match us, hl with | [_], _ => rfl
  have F_law_e_asked := fun_mk (st := st_law_e_asked) lk_law_e_asked co_law_e_asked kp_law_e_asked
  have B_law_e_asked := F_law_e_asked.binds (ps := ["call"]) fun _ _ _ _ _ _ us hl => match us, hl with | [_], _ => rfl
  have F_law_e_refused := fun_mk (st := st_law_e_refused) lk_law_e_refused co_law_e_refused kp_law_e_refused
  have B_law_e_refused := F_law_e_refused.binds (ps := ["call", "due"]) fun _ _ _ _ _ _ us hl => match us, hl with | [_, _], _ => rfl
  have F_law_e_let := fun_mk (st := st_law_e_let) lk_law_e_let co_law_e_let kp_law_e_let
  have B_law_e_let := F_law_e_let.binds (ps := ["call"]) fun _ _ _ _ _ _ us hl => match us, hl with | [_], _ => rfl
  have F_law_e_falls := fun_mk (st := st_law_e_falls) lk_law_e_falls co_law_e_falls kp_law_e_falls
  have B_law_e_falls := F_law_e_falls.binds (ps := ["stock", "rungs"]) fun _ _ _ _ _ _ us hl => match us, hl with | [_, _], _ => rfl
  have F_law_e_ladder := fun_mk (st := st_law_e_ladder) lk_law_e_ladder co_law_e_ladder kp_law_e_ladder
  have B_law_e_ladder := F_law_e_ladder.binds (ps := ["stock", "least", "most", "widest"]) fun _ _ _ _ _ _ us hl => match us, hl with | [_, _, _, _], _ => rfl
  have F_law_e_low := fun_mk (st := st_law_e_low) lk_law_e_low co_law_e_low kp_law_e_low
  have B_law_e_low := F_law_e_low.binds (ps := ["row", "fall"]) fun _ _ _ _ _ _ us hl => match us, hl with | [_, _], _ => rfl
  have F_law_e_loads := fun_mk (st := st_law_e_loads) lk_law_e_loads co_law_e_loads kp_law_e_loads
  have B_law_e_loads := F_law_e_loads.binds (ps := ["ladder"]) fun _ _ _ _ _ _ us hl => match us, hl with | [_], _ => rfl
  have F_law_e_heads := fun_mk (st := st_law_e_heads) lk_law_e_heads co_law_e_heads kp_law_e_heads
  have B_law_e_heads := F_law_e_heads.binds (ps := ["ladder"]) fun _ _ _ _ _ _ us hl => match us, hl with | [_], _ => rfl
  have F_law_e_common := fun_mk (st := st_law_e_common) lk_law_e_common co_law_e_common kp_law_e_common
  have B_law_e_common := F_law_e_common.binds (ps := ["a", "b"]) fun _ _ _ _ _ _ us hl => match us, hl with | [_, _], _ => rfl
  have F_law_e_fraction := fun_mk (st := st_law_e_fraction) lk_law_e_fraction co_law_e_fraction kp_law_e_fraction
  have B_law_e_fraction := F_law_e_fraction.binds (ps := ["top", "bottom"]) fun _ _ _ _ _ _ us hl => match us, hl with | [_, _], _ => rfl
  have F_law_stock := fun_mk (st := st_law_stock) lk_law_stock co_law_stock kp_law_stock
  have B_law_stock := F_law_stock.binds (ps := ["script", "at"]) fun _ _ _ _ _ _ us hl => match us, hl with | [_, _], _ => rfl
  have F_law_draw := fun_mk (st := st_law_draw) lk_law_draw co_law_draw kp_law_draw
  have B_law_draw := F_law_draw.binds (ps := ["stock", "many"]) fun _ _ _ _ _ _ us hl => match us, hl with | [_, _], _ => rfl
  have F_law_matches := fun_mk (st := st_law_matches) lk_law_matches co_law_matches kp_law_matches
  have B_law_matches := F_law_matches.binds (ps := ["answer", "due"]) fun _ _ _ _ _ _ us hl => match us, hl with | [_, _], _ => rfl
  have F_law_k30_paid := fun_mk (st := st_law_k30_paid) lk_law_k30_paid co_law_k30_paid kp_law_k30_paid
  have B_law_k30_paid := F_law_k30_paid.binds (ps := ["plain", "win", "lose"]) fun _ _ _ _ _ _ us hl => match us, hl with | [_, _, _], _ => rfl
  have F_law_k30_claims := fun_mk (st := st_law_k30_claims) lk_law_k30_claims co_law_k30_claims kp_law_k30_claims
  have B_law_k30_claims := F_law_k30_claims.binds (ps := ["plain", "sums", "entry"]) fun _ _ _ _ _ _ us hl => match us, hl with | [_, _, _], _ => rfl
  have F_law_k30_fair := fun_mk (st := st_law_k30_fair) lk_law_k30_fair co_law_k30_fair kp_law_k30_fair
  have B_law_k30_fair := F_law_k30_fair.binds (ps := ["plain", "sums"]) fun _ _ _ _ _ _ us hl => match us, hl with | [_, _], _ => rfl
  have F_law_k30_tellers := fun_mk (st := st_law_k30_tellers) lk_law_k30_tellers co_law_k30_tellers kp_law_k30_tellers
  have B_law_k30_tellers := F_law_k30_tellers.binds (ps := ["prizes", "plain", "win", "lose"]) fun _ _ _ _ _ _ us hl => match us, hl with | [_, _, _, _], _ => rfl
  have F_law_k30_ruin := fun_mk (st := st_law_k30_ruin) lk_law_k30_ruin co_law_k30_ruin kp_law_k30_ruin
  have B_law_k30_ruin := F_law_k30_ruin.binds (ps := ["plain", "sums", "entry", "in_play"]) fun _ _ _ _ _ _ us hl => match us, hl with | [_, _, _, _], _ => rfl
  have F_law_k30_entries := fun_mk (st := st_law_k30_entries) lk_law_k30_entries co_law_k30_entries kp_law_k30_entries
  have B_law_k30_entries := F_law_k30_entries.binds (ps := ["stock", "prizes", "plain", "win", "lose"]) fun _ _ _ _ _ _ us hl => match us, hl with | [_, _, _, _, _], _ => rfl
  have F_law_k30_refusals := fun_mk (st := st_law_k30_refusals) lk_law_k30_refusals co_law_k30_refusals kp_law_k30_refusals
  have B_law_k30_refusals := F_law_k30_refusals.binds (ps := ["stock", "ladder", "rungs"]) fun _ _ _ _ _ _ us hl => match us, hl with | [_, _, _], _ => rfl
  have F_law := fun_mk (st := st_law) lk_law co_law kp_law
  have B_law := F_law.binds (ps := ["script"]) fun _ _ _ _ _ _ us hl => match us, hl with | [_], _ => rfl
  have T : Txt K w mg { a_Prizes := a_Prizes, a_Ladder := a_Ladder, a_LIMITS := a_LIMITS, a_TOLD := a_TOLD, a_BadLadder := a_BadLadder, a_BadTable := a_BadTable, a_WinsError := a_WinsError, a_TooMany := a_TooMany, a_BadDemand := a_BadDemand, a_BadText := a_BadText, a_BadSeason := a_BadSeason, a_BadCode := a_BadCode, a_BadEvent := a_BadEvent, a_BadFoe := a_BadFoe, a_BadPaper := a_BadPaper, a_BadDisk := a_BadDisk, a_BadDeed := a_BadDeed, c_law_k30_refusals := c_law_k30_refusals, p_law_k30_refusals := p_law_k30_refusals, c_law := c_law, p_law := p_law } := {
    b_ValueError := PySem.W.mg_none_of X G b_ValueError
    b_abs := PySem.W.mg_none_of X G b_abs
    b_bool := PySem.W.mg_none_of X G b_bool
    b_enumerate := PySem.W.mg_none_of X G b_enumerate
    b_int := PySem.W.mg_none_of X G b_int
    b_isinstance := PySem.W.mg_none_of X G b_isinstance
    b_len := PySem.W.mg_none_of X G b_len
    b_list := PySem.W.mg_none_of X G b_list
    b_max := PySem.W.mg_none_of X G b_max
    b_min := PySem.W.mg_none_of X G b_min
    b_range := PySem.W.mg_none_of X G b_range
    b_reversed := PySem.W.mg_none_of X G b_reversed
    b_str := PySem.W.mg_none_of X G b_str
    b_sum := PySem.W.mg_none_of X G b_sum
    b_tuple := PySem.W.mg_none_of X G b_tuple
    b_zip := PySem.W.mg_none_of X G b_zip
    c_LIMITS := PySem.W.mg_of X G c_LIMITS
    k_LIMITS_lines := ⟨_, _, _, l_LIMITS, kl_LIMITS, v_LIMITS_lines, ⟨_, rfl⟩⟩
    k_LIMITS_words := ⟨_, _, _, l_LIMITS, kl_LIMITS, v_LIMITS_words, ⟨_, rfl⟩⟩
    k_LIMITS_number := ⟨_, _, _, l_LIMITS, kl_LIMITS, v_LIMITS_number, ⟨_, rfl⟩⟩
    k_LIMITS_depth := ⟨_, _, _, l_LIMITS, kl_LIMITS, v_LIMITS_depth, ⟨_, rfl⟩⟩
    k_LIMITS_blocks := ⟨_, _, _, l_LIMITS, kl_LIMITS, v_LIMITS_blocks, ⟨_, rfl⟩⟩
    k_LIMITS_lanes := ⟨_, _, _, l_LIMITS, kl_LIMITS, v_LIMITS_lanes, ⟨_, rfl⟩⟩
    k_LIMITS_rungs := ⟨_, _, _, l_LIMITS, kl_LIMITS, v_LIMITS_rungs, ⟨_, rfl⟩⟩
    k_LIMITS_ways := ⟨_, _, _, l_LIMITS, kl_LIMITS, v_LIMITS_ways, ⟨_, rfl⟩⟩
    k_LIMITS_promises := ⟨_, _, _, l_LIMITS, kl_LIMITS, v_LIMITS_promises, ⟨_, rfl⟩⟩
    k_LIMITS_variables := ⟨_, _, _, l_LIMITS, kl_LIMITS, v_LIMITS_variables, ⟨_, rfl⟩⟩
    k_LIMITS_states := ⟨_, _, _, l_LIMITS, kl_LIMITS, v_LIMITS_states, ⟨_, rfl⟩⟩
    k_LIMITS_rows := ⟨_, _, _, l_LIMITS, kl_LIMITS, v_LIMITS_rows, ⟨_, rfl⟩⟩
    k_LIMITS_events := ⟨_, _, _, l_LIMITS, kl_LIMITS, v_LIMITS_events, ⟨_, rfl⟩⟩
    k_LIMITS_meetings := ⟨_, _, _, l_LIMITS, kl_LIMITS, v_LIMITS_meetings, ⟨_, rfl⟩⟩
    k_LIMITS_housemeetings := ⟨_, _, _, l_LIMITS, kl_LIMITS, v_LIMITS_housemeetings, ⟨_, rfl⟩⟩
    k_LIMITS_rounds := ⟨_, _, _, l_LIMITS, kl_LIMITS, v_LIMITS_rounds, ⟨_, rfl⟩⟩
    k_LIMITS_late := ⟨_, _, _, l_LIMITS, kl_LIMITS, v_LIMITS_late, ⟨_, rfl⟩⟩
    k_LIMITS_plan := ⟨_, _, _, l_LIMITS, kl_LIMITS, v_LIMITS_plan, ⟨_, rfl⟩⟩
    k_LIMITS_nodes := ⟨_, _, _, l_LIMITS, kl_LIMITS, v_LIMITS_nodes, ⟨_, rfl⟩⟩
    k_LIMITS_players := ⟨_, _, _, l_LIMITS, kl_LIMITS, v_LIMITS_players, ⟨_, rfl⟩⟩
    k_LIMITS_log := ⟨_, _, _, l_LIMITS, kl_LIMITS, v_LIMITS_log, ⟨_, rfl⟩⟩
    k_LIMITS_signs := ⟨_, _, _, l_LIMITS, kl_LIMITS, v_LIMITS_signs, ⟨_, rfl⟩⟩
    c_OUT := ⟨_, PySem.W.mg_of X G c_OUT⟩
    c_TOLD := PySem.W.mg_of X G c_TOLD
    k_TOLD_blocks := ⟨_, _, _, l_TOLD, kl_TOLD, v_TOLD_blocks, ⟨_, rfl⟩⟩
    k_TOLD_states := ⟨_, _, _, l_TOLD, kl_TOLD, v_TOLD_states, ⟨_, rfl⟩⟩
    k_TOLD_housemeetings := ⟨_, _, _, l_TOLD, kl_TOLD, v_TOLD_housemeetings, ⟨_, rfl⟩⟩
    l_Prizes := ⟨pg_Prizes, hd_Prizes, po_Prizes, sa_Prizes⟩
    n_Prizes_ladder_kept := n_Prizes_ladder_kept
    n_Prizes_win_list := n_Prizes_win_list
    n_Prizes_lose_list := n_Prizes_lose_list
    l_Ladder := ⟨pg_Ladder, hd_Ladder, po_Ladder, sa_Ladder⟩
    n_Ladder_lanes_number := n_Ladder_lanes_number
    n_Ladder_falls_list := n_Ladder_falls_list
    n_Ladder_returns_kept := n_Ladder_returns_kept
    n_Ladder_loads_table := n_Ladder_loads_table
    n_Ladder_heads_list := n_Ladder_heads_list
    n_Ladder_worths_list := n_Ladder_worths_list
    o_BadLadder := ⟨⟨_, _, _, _, _, _, _, _, _, _, _, _, _, _, _, xl_BadLadder, rv_BadLadder⟩, sa_BadLadder, ec_BadLadder, ty_BadLadder, kc_BadLadder⟩
    x_BadLadder := ⟨ga_BadLadder, gg_BadLadder, ec_BadLadder, hd_BadLadder⟩
    g_BadLadder := PySem.W.mg_of X G g_BadLadder
    m_BadLadder := exm_own ec_BadLadder ic_BadLadder ty_BadLadder ss_BadLadder
    n_BadLadder_rung := n_BadLadder_rung
    o_BadTable := ⟨⟨_, _, _, _, _, _, _, _, _, _, _, _, _, _, _, xl_BadTable, rv_BadTable⟩, sa_BadTable, ec_BadTable, ty_BadTable, kc_BadTable⟩
    x_BadTable := ⟨ga_BadTable, gg_BadTable, ec_BadTable, hd_BadTable⟩
    g_BadTable := PySem.W.mg_of X G g_BadTable
    m_BadTable := exm_own ec_BadTable ic_BadTable ty_BadTable ss_BadTable
    n_BadTable_rung := n_BadTable_rung
    g_WinsError := PySem.W.mg_of X G g_WinsError
    wg_WinsError := wg_WinsError
    wr_WinsError := wr_WinsError
    wv_WinsError := wv_WinsError
    g_TooMany := PySem.W.mg_of X G g_TooMany
    g_BadDemand := PySem.W.mg_of X G g_BadDemand
    g_BadText := PySem.W.mg_of X G g_BadText
    g_BadSeason := PySem.W.mg_of X G g_BadSeason
    g_BadCode := PySem.W.mg_of X G g_BadCode
    g_BadEvent := PySem.W.mg_of X G g_BadEvent
    g_BadFoe := PySem.W.mg_of X G g_BadFoe
    g_BadPaper := PySem.W.mg_of X G g_BadPaper
    g_BadDisk := PySem.W.mg_of X G g_BadDisk
    g_BadDeed := PySem.W.mg_of X G g_BadDeed
    xi_BadLadder := ⟨ic_BadLadder, ga_BadLadder, gg_BadLadder, ec_BadLadder, xc_BadLadder, xg_BadLadder, xt_BadLadder, xm_BadLadder⟩
    ki_BadLadder_TooMany := ki_BadLadder_TooMany
    ki_BadLadder_BadLadder := ki_BadLadder_BadLadder
    ki_BadLadder_BadTable := ki_BadLadder_BadTable
    ki_BadLadder_BadDemand := ki_BadLadder_BadDemand
    ki_BadLadder_ValueError := ki_BadLadder_ValueError
    ka_BadLadder_0 := ka_BadLadder_0
    mm_BadLadder_WinsError := mm_BadLadder_WinsError
    xi_BadTable := ⟨ic_BadTable, ga_BadTable, gg_BadTable, ec_BadTable, xc_BadTable, xg_BadTable, xt_BadTable, xm_BadTable⟩
    ki_BadTable_TooMany := ki_BadTable_TooMany
    ki_BadTable_BadLadder := ki_BadTable_BadLadder
    ki_BadTable_BadTable := ki_BadTable_BadTable
    ki_BadTable_BadDemand := ki_BadTable_BadDemand
    ki_BadTable_ValueError := ki_BadTable_ValueError
    ka_BadTable_0 := ka_BadTable_0
    mm_BadTable_WinsError := mm_BadTable_WinsError
    f_BadLadder_init := ⟨_, _, F_BadLadder_init, at_BadLadder_init, tf_BadLadder_init, B_BadLadder_init⟩
    f_BadTable_init := ⟨_, _, F_BadTable_init, at_BadTable_init, tf_BadTable_init, B_BadTable_init⟩
    f_common := ⟨_, _, F_common, PySem.W.mg_of X G at_common, B_common⟩
    f_fraction := ⟨_, _, F_fraction, PySem.W.mg_of X G at_fraction, B_fraction⟩
    f_taken := ⟨_, _, F_taken, PySem.W.mg_of X G at_taken, B_taken⟩
    f_times := ⟨_, _, F_times, PySem.W.mg_of X G at_times, B_times⟩
    f_less := ⟨_, _, F_less, PySem.W.mg_of X G at_less, B_less⟩
    f_grown := ⟨_, _, F_grown, PySem.W.mg_of X G at_grown, B_grown⟩
    f_load_rows := ⟨_, _, F_load_rows, PySem.W.mg_of X G at_load_rows, B_load_rows⟩
    f_head_row := ⟨_, _, F_head_row, PySem.W.mg_of X G at_head_row, B_head_row⟩
    f_worth_row := ⟨_, _, F_worth_row, PySem.W.mg_of X G at_worth_row, B_worth_row⟩
    f_wrong_count := ⟨_, _, F_wrong_count, PySem.W.mg_of X G at_wrong_count, B_wrong_count⟩
    f_Prizes_init := ⟨_, _, F_Prizes_init, ⟨mk_Prizes, at_Prizes_init, fn_Prizes_init, kc_Prizes⟩, PySem.W.mg_of X G g_Prizes, B_Prizes_init⟩
    f_Prizes_ladder := ⟨_, _, F_Prizes_ladder, ⟨at_Prizes_ladder, fn_Prizes_ladder, kp_Prizes_ladder⟩, B_Prizes_ladder⟩
    f_Prizes_win := ⟨_, _, F_Prizes_win, ⟨at_Prizes_win, fn_Prizes_win, kp_Prizes_win⟩, B_Prizes_win⟩
    f_Prizes_lose := ⟨_, _, F_Prizes_lose, ⟨at_Prizes_lose, fn_Prizes_lose, kp_Prizes_lose⟩, B_Prizes_lose⟩
    f_Prizes_per_meeting := ⟨_, _, F_Prizes_per_meeting, ⟨at_Prizes_per_meeting, fn_Prizes_per_meeting, kp_Prizes_per_meeting⟩, B_Prizes_per_meeting⟩
    f_Prizes_sums := ⟨_, _, F_Prizes_sums, ⟨at_Prizes_sums, fn_Prizes_sums, kp_Prizes_sums⟩, B_Prizes_sums⟩
    f_Prizes_claims := ⟨_, _, F_Prizes_claims, ⟨at_Prizes_claims, fn_Prizes_claims, kp_Prizes_claims⟩, B_Prizes_claims⟩
    f_Prizes_fair_entry := ⟨_, _, F_Prizes_fair_entry, ⟨at_Prizes_fair_entry, fn_Prizes_fair_entry, kp_Prizes_fair_entry⟩, B_Prizes_fair_entry⟩
    f_Prizes_ruin_after := ⟨_, _, F_Prizes_ruin_after, ⟨at_Prizes_ruin_after, fn_Prizes_ruin_after, kp_Prizes_ruin_after⟩, B_Prizes_ruin_after⟩
    f_bound := ⟨_, _, F_bound, PySem.W.mg_of X G at_bound, B_bound⟩
    f_wrong_rung := ⟨_, _, F_wrong_rung, PySem.W.mg_of X G at_wrong_rung, B_wrong_rung⟩
    f_Ladder_init := ⟨_, _, F_Ladder_init, ⟨mk_Ladder, at_Ladder_init, fn_Ladder_init, kc_Ladder⟩, PySem.W.mg_of X G g_Ladder, B_Ladder_init⟩
    f_Ladder_same_as := ⟨_, _, F_Ladder_same_as, ⟨at_Ladder_same_as, fn_Ladder_same_as, kp_Ladder_same_as⟩, B_Ladder_same_as⟩
    f_Ladder_lanes := ⟨_, _, F_Ladder_lanes, ⟨at_Ladder_lanes, fn_Ladder_lanes, kp_Ladder_lanes⟩, B_Ladder_lanes⟩
    f_Ladder_rungs := ⟨_, _, F_Ladder_rungs, ⟨at_Ladder_rungs, fn_Ladder_rungs, kp_Ladder_rungs⟩, B_Ladder_rungs⟩
    f_Ladder_falls := ⟨_, _, F_Ladder_falls, ⟨at_Ladder_falls, fn_Ladder_falls, kp_Ladder_falls⟩, B_Ladder_falls⟩
    f_Ladder_returns := ⟨_, _, F_Ladder_returns, ⟨at_Ladder_returns, fn_Ladder_returns, kp_Ladder_returns⟩, B_Ladder_returns⟩
    f_Ladder_check_rung := ⟨_, _, F_Ladder_check_rung, ⟨at_Ladder_check_rung, fn_Ladder_check_rung, kp_Ladder_check_rung⟩, B_Ladder_check_rung⟩
    f_Ladder_check_place := ⟨_, _, F_Ladder_check_place, ⟨at_Ladder_check_place, fn_Ladder_check_place, kp_Ladder_check_place⟩, B_Ladder_check_place⟩
    f_Ladder_fall := ⟨_, _, F_Ladder_fall, ⟨at_Ladder_fall, fn_Ladder_fall, kp_Ladder_fall⟩, B_Ladder_fall⟩
    f_Ladder_heads := ⟨_, _, F_Ladder_heads, ⟨at_Ladder_heads, fn_Ladder_heads, kp_Ladder_heads⟩, B_Ladder_heads⟩
    f_Ladder_weights := ⟨_, _, F_Ladder_weights, ⟨at_Ladder_weights, fn_Ladder_weights, kp_Ladder_weights⟩, B_Ladder_weights⟩
    f_law_e_named := ⟨_, _, F_law_e_named, PySem.W.mg_of X G at_law_e_named, B_law_e_named⟩
    f_law_e_asked := ⟨_, _, F_law_e_asked, PySem.W.mg_of X G at_law_e_asked, B_law_e_asked⟩
    f_law_e_refused := ⟨_, _, F_law_e_refused, PySem.W.mg_of X G at_law_e_refused, B_law_e_refused⟩
    f_law_e_let := ⟨_, _, F_law_e_let, PySem.W.mg_of X G at_law_e_let, B_law_e_let⟩
    f_law_e_falls := ⟨_, _, F_law_e_falls, PySem.W.mg_of X G at_law_e_falls, B_law_e_falls⟩
    f_law_e_ladder := ⟨_, _, F_law_e_ladder, PySem.W.mg_of X G at_law_e_ladder, B_law_e_ladder⟩
    f_law_e_low := ⟨_, _, F_law_e_low, PySem.W.mg_of X G at_law_e_low, B_law_e_low⟩
    f_law_e_loads := ⟨_, _, F_law_e_loads, PySem.W.mg_of X G at_law_e_loads, B_law_e_loads⟩
    f_law_e_heads := ⟨_, _, F_law_e_heads, PySem.W.mg_of X G at_law_e_heads, B_law_e_heads⟩
    f_law_e_common := ⟨_, _, F_law_e_common, PySem.W.mg_of X G at_law_e_common, B_law_e_common⟩
    f_law_e_fraction := ⟨_, _, F_law_e_fraction, PySem.W.mg_of X G at_law_e_fraction, B_law_e_fraction⟩
    f_law_stock := ⟨_, _, F_law_stock, PySem.W.mg_of X G at_law_stock, B_law_stock⟩
    f_law_draw := ⟨_, _, F_law_draw, PySem.W.mg_of X G at_law_draw, B_law_draw⟩
    f_law_matches := ⟨_, _, F_law_matches, PySem.W.mg_of X G at_law_matches, B_law_matches⟩
    f_law_k30_paid := ⟨_, _, F_law_k30_paid, PySem.W.mg_of X G at_law_k30_paid, B_law_k30_paid⟩
    f_law_k30_claims := ⟨_, _, F_law_k30_claims, PySem.W.mg_of X G at_law_k30_claims, B_law_k30_claims⟩
    f_law_k30_fair := ⟨_, _, F_law_k30_fair, PySem.W.mg_of X G at_law_k30_fair, B_law_k30_fair⟩
    f_law_k30_tellers := ⟨_, _, F_law_k30_tellers, PySem.W.mg_of X G at_law_k30_tellers, B_law_k30_tellers⟩
    f_law_k30_ruin := ⟨_, _, F_law_k30_ruin, PySem.W.mg_of X G at_law_k30_ruin, B_law_k30_ruin⟩
    f_law_k30_entries := ⟨_, _, F_law_k30_entries, PySem.W.mg_of X G at_law_k30_entries, B_law_k30_entries⟩
    f_law_k30_refusals := ⟨_, _, F_law_k30_refusals, rfl, PySem.W.mg_of X G at_law_k30_refusals, B_law_k30_refusals⟩
    f_law := ⟨_, _, F_law, rfl, PySem.W.mg_of X G at_law, B_law⟩
  }
  refine ⟨PySem.W.fnOf "law" "law" (defArgs st_law) (defBody st_law) (defScope st_law) .none kV_law dc_law pm_law an_law (.ref c_law) ct_law, [(c_law_k30_refusals, p_law_k30_refusals), (c_law, p_law)], sp_law K { a_Prizes := a_Prizes, a_Ladder := a_Ladder, a_LIMITS := a_LIMITS, a_TOLD := a_TOLD, a_BadLadder := a_BadLadder, a_BadTable := a_BadTable, a_WinsError := a_WinsError, a_TooMany := a_TooMany, a_BadDemand := a_BadDemand, a_BadText := a_BadText, a_BadSeason := a_BadSeason, a_BadCode := a_BadCode, a_BadEvent := a_BadEvent, a_BadFoe := a_BadFoe, a_BadPaper := a_BadPaper, a_BadDisk := a_BadDisk, a_BadDeed := a_BadDeed, c_law_k30_refusals := c_law_k30_refusals, p_law_k30_refusals := p_law_k30_refusals, c_law := c_law, p_law := p_law }, List.forall_mem_cons.mpr ⟨tb_law_k30_refusals, List.forall_mem_cons.mpr ⟨tb_law, fun _ h => nomatch h⟩⟩, List.forall_mem_cons.mpr ⟨nT_law_k30_refusals, List.forall_mem_cons.mpr ⟨nT_law, fun _ h => nomatch h⟩⟩, List.forall_mem_cons.mpr ⟨PySem.W.codeHd_of_K X hc_law_k30_refusals, List.forall_mem_cons.mpr ⟨PySem.W.codeHd_of_K X hc_law, fun _ h => nomatch h⟩⟩, fun s v => .of_eq rfl, fun H a ns hl _ hH hS => ⟨a, ns, rfl, hS, hl, ?_, fun _ => rfl⟩, fun base _ _ TB => ok_law T ?_ F_law rfl⟩
  · exact List.forall_mem_cons.mpr ⟨LamX.TabS.nil (hH (c_law_k30_refusals, p_law_k30_refusals) (.head _)), List.forall_mem_cons.mpr ⟨LamX.TabS.nil (hH (c_law, p_law) (.tail _ (.head _))), fun _ h => nomatch h⟩⟩
  · exact ⟨TB (c_law_k30_refusals, p_law_k30_refusals) (.head _), TB (c_law, p_law) (.tail _ (.head _)), ne_law_law_k30_refusals⟩
theorem walk {l : PySem.W.OpenLaw} {q : Program} {loose : List Str} {XP : (Str → Option Value) → Heap → Prop} {YP : World → Heap → Prop} {d : DefRec} {K : Params → PySem.W.Frag} (hn : l.most = some 63) (hdf : d.params.defaults = [])
    (hY : ∀ (w : World) (h : Heap), YP w h → (K w.params).In h)
    (F : ∀ (w : World) (mg : Str → Option Value) (fa : Addr) (h : Heap), YP w h → (K w.params).In h → h.Ns mainGlobals mg → mg d.name = some (.ref fa) → LamX.LawAtS l w (K w.params) CX0 13 63 "script" mg fa h) :
    PySem.W.WalkO q loose XP YP l.row.toRowW d [] (fun f vs => PySem.call f vs) :=
  LamX.walk_ofTs (n := 63) (k := 13) (x := "script") (CX := fun _ => CX0) hn (by decide) hdf ⟨rfl, by decide, by decide⟩ hY F fun _ _ _ _ _ z => z
end L30
open PySem PySem.W PyProof.Rows in
set_option maxRecDepth 100000 in
set_option maxHeartbeats 0 in
theorem PySem.Challenge.cw_whoeverwins_k30_prizes_claims_and_the_fa_holds : PySem.Challenge.rw_whoeverwins_k30_prizes_claims_and_the_fa.Holds := by
  w_on; o_law; k_head; (case hw => w_witness2)
  k_fill
  refine L30.walk (l := PySem.Challenge.rw_whoeverwins_k30_prizes_claims_and_the_fa) rfl rfl (fun w h Y => PySem.W.km_in_of Y) ?F
  case F =>
    intro w mg fa h Y KX G hmg
    refine' L30.all_mk KX G hmg ?g_Prizes ?pg_Prizes ?hd_Prizes ?po_Prizes ?sa_Prizes ?mk_Prizes ?kc_Prizes ?g_Ladder ?pg_Ladder ?hd_Ladder ?po_Ladder ?sa_Ladder ?mk_Ladder ?kc_Ladder ?b_ValueError ?b_abs ?b_bool ?b_enumerate ?b_int ?b_isinstance ?b_len ?b_list ?b_max ?b_min ?b_range ?b_reversed ?b_str ?b_sum ?b_tuple ?b_zip ?c_LIMITS ?l_LIMITS ?kl_LIMITS ?v_LIMITS_lines ?v_LIMITS_words ?v_LIMITS_number ?v_LIMITS_depth ?v_LIMITS_blocks ?v_LIMITS_lanes ?v_LIMITS_rungs ?v_LIMITS_ways ?v_LIMITS_promises ?v_LIMITS_variables ?v_LIMITS_states ?v_LIMITS_rows ?v_LIMITS_events ?v_LIMITS_meetings ?v_LIMITS_housemeetings ?v_LIMITS_rounds ?v_LIMITS_late ?v_LIMITS_plan ?v_LIMITS_nodes ?v_LIMITS_players ?v_LIMITS_log ?v_LIMITS_signs ?c_OUT ?c_TOLD ?l_TOLD ?kl_TOLD ?v_TOLD_blocks ?v_TOLD_states ?v_TOLD_housemeetings ?n_Prizes_ladder_kept ?n_Prizes_win_list ?n_Prizes_lose_list ?n_Ladder_lanes_number ?n_Ladder_falls_list ?n_Ladder_returns_kept ?n_Ladder_loads_table ?n_Ladder_heads_list ?n_Ladder_worths_list ?g_BadLadder ?xl_BadLadder ?rv_BadLadder ?sa_BadLadder ?ec_BadLadder ?ty_BadLadder ?kc_BadLadder ?ga_BadLadder ?gg_BadLadder ?hd_BadLadder ?ic_BadLadder ?ss_BadLadder ?n_BadLadder_rung ?g_BadTable ?xl_BadTable ?rv_BadTable ?sa_BadTable ?ec_BadTable ?ty_BadTable ?kc_BadTable ?ga_BadTable ?gg_BadTable ?hd_BadTable ?ic_BadTable ?ss_BadTable ?n_BadTable_rung ?g_WinsError ?wg_WinsError ?wr_WinsError ?wv_WinsError ?g_TooMany ?g_BadDemand ?g_BadText ?g_BadSeason ?g_BadCode ?g_BadEvent ?g_BadFoe ?g_BadPaper ?g_BadDisk ?g_BadDeed ?xc_BadLadder ?xg_BadLadder ?xt_BadLadder ?xm_BadLadder ?ki_BadLadder_TooMany ?ki_BadLadder_BadLadder ?ki_BadLadder_BadTable ?ki_BadLadder_BadDemand ?ki_BadLadder_ValueError ?ka_BadLadder_0 ?mm_BadLadder_WinsError ?xc_BadTable ?xg_BadTable ?xt_BadTable ?xm_BadTable ?ki_BadTable_TooMany ?ki_BadTable_BadLadder ?ki_BadTable_BadTable ?ki_BadTable_BadDemand ?ki_BadTable_ValueError ?ka_BadTable_0 ?mm_BadTable_WinsError ?at_BadLadder_init ?tf_BadLadder_init ?lk_BadLadder_init ?co_BadLadder_init ?kp_BadLadder_init ?at_BadTable_init ?tf_BadTable_init ?lk_BadTable_init ?co_BadTable_init ?kp_BadTable_init ?at_common ?lk_common ?co_common ?kp_common ?at_fraction ?lk_fraction ?co_fraction ?kp_fraction ?at_taken ?lk_taken ?co_taken ?kp_taken ?at_times ?lk_times ?co_times ?kp_times ?at_less ?lk_less ?co_less ?kp_less ?at_grown ?lk_grown ?co_grown ?kp_grown ?at_load_rows ?lk_load_rows ?co_load_rows ?kp_load_rows ?at_head_row ?lk_head_row ?co_head_row ?kp_head_row ?at_worth_row ?lk_worth_row ?co_worth_row ?kp_worth_row ?at_wrong_count ?lk_wrong_count ?co_wrong_count ?kp_wrong_count ?at_Prizes_init ?fn_Prizes_init ?lk_Prizes_init ?co_Prizes_init ?kp_Prizes_init ?at_Prizes_ladder ?fn_Prizes_ladder ?lk_Prizes_ladder ?co_Prizes_ladder ?kp_Prizes_ladder ?at_Prizes_win ?fn_Prizes_win ?lk_Prizes_win ?co_Prizes_win ?kp_Prizes_win ?at_Prizes_lose ?fn_Prizes_lose ?lk_Prizes_lose ?co_Prizes_lose ?kp_Prizes_lose ?at_Prizes_per_meeting ?fn_Prizes_per_meeting ?lk_Prizes_per_meeting ?co_Prizes_per_meeting ?kp_Prizes_per_meeting ?at_Prizes_sums ?fn_Prizes_sums ?lk_Prizes_sums ?co_Prizes_sums ?kp_Prizes_sums ?at_Prizes_claims ?fn_Prizes_claims ?lk_Prizes_claims ?co_Prizes_claims ?kp_Prizes_claims ?at_Prizes_fair_entry ?fn_Prizes_fair_entry ?lk_Prizes_fair_entry ?co_Prizes_fair_entry ?kp_Prizes_fair_entry ?at_Prizes_ruin_after ?fn_Prizes_ruin_after ?lk_Prizes_ruin_after ?co_Prizes_ruin_after ?kp_Prizes_ruin_after ?at_bound ?lk_bound ?co_bound ?kp_bound ?at_wrong_rung ?lk_wrong_rung ?co_wrong_rung ?kp_wrong_rung ?at_Ladder_init ?fn_Ladder_init ?lk_Ladder_init ?co_Ladder_init ?kp_Ladder_init ?at_Ladder_same_as ?fn_Ladder_same_as ?lk_Ladder_same_as ?co_Ladder_same_as ?kp_Ladder_same_as ?at_Ladder_lanes ?fn_Ladder_lanes ?lk_Ladder_lanes ?co_Ladder_lanes ?kp_Ladder_lanes ?at_Ladder_rungs ?fn_Ladder_rungs ?lk_Ladder_rungs ?co_Ladder_rungs ?kp_Ladder_rungs ?at_Ladder_falls ?fn_Ladder_falls ?lk_Ladder_falls ?co_Ladder_falls ?kp_Ladder_falls ?at_Ladder_returns ?fn_Ladder_returns ?lk_Ladder_returns ?co_Ladder_returns ?kp_Ladder_returns ?at_Ladder_check_rung ?fn_Ladder_check_rung ?lk_Ladder_check_rung ?co_Ladder_check_rung ?kp_Ladder_check_rung ?at_Ladder_check_place ?fn_Ladder_check_place ?lk_Ladder_check_place ?co_Ladder_check_place ?kp_Ladder_check_place ?at_Ladder_fall ?fn_Ladder_fall ?lk_Ladder_fall ?co_Ladder_fall ?kp_Ladder_fall ?at_Ladder_heads ?fn_Ladder_heads ?lk_Ladder_heads ?co_Ladder_heads ?kp_Ladder_heads ?at_Ladder_weights ?fn_Ladder_weights ?lk_Ladder_weights ?co_Ladder_weights ?kp_Ladder_weights ?at_law_e_named ?lk_law_e_named ?co_law_e_named ?kp_law_e_named ?at_law_e_asked ?lk_law_e_asked ?co_law_e_asked ?kp_law_e_asked ?at_law_e_refused ?lk_law_e_refused ?co_law_e_refused ?kp_law_e_refused ?at_law_e_let ?lk_law_e_let ?co_law_e_let ?kp_law_e_let ?at_law_e_falls ?lk_law_e_falls ?co_law_e_falls ?kp_law_e_falls ?at_law_e_ladder ?lk_law_e_ladder ?co_law_e_ladder ?kp_law_e_ladder ?at_law_e_low ?lk_law_e_low ?co_law_e_low ?kp_law_e_low ?at_law_e_loads ?lk_law_e_loads ?co_law_e_loads ?kp_law_e_loads ?at_law_e_heads ?lk_law_e_heads ?co_law_e_heads ?kp_law_e_heads ?at_law_e_common ?lk_law_e_common ?co_law_e_common ?kp_law_e_common ?at_law_e_fraction ?lk_law_e_fraction ?co_law_e_fraction ?kp_law_e_fraction ?at_law_stock ?lk_law_stock ?co_law_stock ?kp_law_stock ?at_law_draw ?lk_law_draw ?co_law_draw ?kp_law_draw ?at_law_matches ?lk_law_matches ?co_law_matches ?kp_law_matches ?at_law_k30_paid ?lk_law_k30_paid ?co_law_k30_paid ?kp_law_k30_paid ?at_law_k30_claims ?lk_law_k30_claims ?co_law_k30_claims ?kp_law_k30_claims ?at_law_k30_fair ?lk_law_k30_fair ?co_law_k30_fair ?kp_law_k30_fair ?at_law_k30_tellers ?lk_law_k30_tellers ?co_law_k30_tellers ?kp_law_k30_tellers ?at_law_k30_ruin ?lk_law_k30_ruin ?co_law_k30_ruin ?kp_law_k30_ruin ?at_law_k30_entries ?lk_law_k30_entries ?co_law_k30_entries ?kp_law_k30_entries ?at_law_k30_refusals ?lk_law_k30_refusals ?co_law_k30_refusals ?kp_law_k30_refusals ?vc_law_k30_refusals ?v11_law_k30_refusals ?hc_law_k30_refusals ?nT_law_k30_refusals ?tb_law_k30_refusals ?at_law ?lk_law ?co_law ?kp_law ?vc_law ?v11_law ?hc_law ?nT_law ?tb_law ?ne_law_law_k30_refusals
    (case g_Prizes => k_is)
    (case pg_Prizes => k_is)
    (case hd_Prizes => k_is)
    (case po_Prizes => k_is)
    (case sa_Prizes => k_is)
    (case mk_Prizes => k_is)
    (case kc_Prizes => k_is)
    (case g_Ladder => k_is)
    (case pg_Ladder => k_is)
    (case hd_Ladder => k_is)
    (case po_Ladder => k_is)
    (case sa_Ladder => k_is)
    (case mk_Ladder => k_is)
    (case kc_Ladder => k_is)
    (case b_ValueError => k_is)
    (case b_abs => k_is)
    (case b_bool => k_is)
    (case b_enumerate => k_is)
    (case b_int => k_is)
    (case b_isinstance => k_is)
    (case b_len => k_is)
    (case b_list => k_is)
    (case b_max => k_is)
    (case b_min => k_is)
    (case b_range => k_is)
    (case b_reversed => k_is)
    (case b_str => k_is)
    (case b_sum => k_is)
    (case b_tuple => k_is)
    (case b_zip => k_is)
    (case c_LIMITS => k_is)
    (case l_LIMITS => k_is)
    (case kl_LIMITS => exact ⟨⟨_, _, rfl, rfl⟩, ⟨⟨_, _, rfl, rfl⟩, ⟨⟨_, _, rfl, rfl⟩, ⟨⟨_, _, rfl, rfl⟩, ⟨⟨_, _, rfl, rfl⟩, ⟨⟨_, _, rfl, rfl⟩, ⟨⟨_, _, rfl, rfl⟩, ⟨⟨_, _, rfl, rfl⟩, ⟨⟨_, _, rfl, rfl⟩, ⟨⟨_, _, rfl, rfl⟩, ⟨⟨_, _, rfl, rfl⟩, ⟨⟨_, _, rfl, rfl⟩, ⟨⟨_, _, rfl, rfl⟩, ⟨⟨_, _, rfl, rfl⟩, ⟨⟨_, _, rfl, rfl⟩, ⟨⟨_, _, rfl, rfl⟩, ⟨⟨_, _, rfl, rfl⟩, ⟨⟨_, _, rfl, rfl⟩, ⟨⟨_, _, rfl, rfl⟩, ⟨⟨_, _, rfl, rfl⟩, ⟨⟨_, _, rfl, rfl⟩, ⟨⟨_, _, rfl, rfl⟩, trivial⟩⟩⟩⟩⟩⟩⟩⟩⟩⟩⟩⟩⟩⟩⟩⟩⟩⟩⟩⟩⟩⟩)
    (case v_LIMITS_lines => k_is)
    (case v_LIMITS_words => k_is)
    (case v_LIMITS_number => k_is)
    (case v_LIMITS_depth => k_is)
    (case v_LIMITS_blocks => k_is)
    (case v_LIMITS_lanes => k_is)
    (case v_LIMITS_rungs => k_is)
    (case v_LIMITS_ways => k_is)
    (case v_LIMITS_promises => k_is)
    (case v_LIMITS_variables => k_is)
    (case v_LIMITS_states => k_is)
    (case v_LIMITS_rows => k_is)
    (case v_LIMITS_events => k_is)
    (case v_LIMITS_meetings => k_is)
    (case v_LIMITS_housemeetings => k_is)
    (case v_LIMITS_rounds => k_is)
    (case v_LIMITS_late => k_is)
    (case v_LIMITS_plan => k_is)
    (case v_LIMITS_nodes => k_is)
    (case v_LIMITS_players => k_is)
    (case v_LIMITS_log => k_is)
    (case v_LIMITS_signs => k_is)
    (case c_OUT => k_is)
    (case c_TOLD => k_is)
    (case l_TOLD => k_is)
    (case kl_TOLD => exact ⟨⟨_, _, rfl, rfl⟩, ⟨⟨_, _, rfl, rfl⟩, ⟨⟨_, _, rfl, rfl⟩, trivial⟩⟩⟩)
    (case v_TOLD_blocks => k_is)
    (case v_TOLD_states => k_is)
    (case v_TOLD_housemeetings => k_is)
    (case n_Prizes_ladder_kept => k_is)
    (case n_Prizes_win_list => k_is)
    (case n_Prizes_lose_list => k_is)
    (case n_Ladder_lanes_number => k_is)
    (case n_Ladder_falls_list => k_is)
    (case n_Ladder_returns_kept => k_is)
    (case n_Ladder_loads_table => k_is)
    (case n_Ladder_heads_list => k_is)
    (case n_Ladder_worths_list => k_is)
    (case g_BadLadder => k_is)
    (case xl_BadLadder => k_is)
    (case rv_BadLadder => first | rfl | decide +kernel | k_is)
    (case sa_BadLadder => k_is)
    (case ec_BadLadder => k_is)
    (case ty_BadLadder => k_is)
    (case kc_BadLadder => k_is)
    (case ga_BadLadder => k_is)
    (case gg_BadLadder => k_is)
    (case hd_BadLadder => k_is)
    (case ic_BadLadder => k_is)
    (case ss_BadLadder => first | rfl | k_is)
    (case n_BadLadder_rung => k_is)
    (case g_BadTable => k_is)
    (case xl_BadTable => k_is)
    (case rv_BadTable => first | rfl | decide +kernel | k_is)
    (case sa_BadTable => k_is)
    (case ec_BadTable => k_is)
    (case ty_BadTable => k_is)
    (case kc_BadTable => k_is)
    (case ga_BadTable => k_is)
    (case gg_BadTable => k_is)
    (case hd_BadTable => k_is)
    (case ic_BadTable => k_is)
    (case ss_BadTable => first | rfl | k_is)
    (case n_BadTable_rung => k_is)
    (case g_WinsError => k_is)
    (case wg_WinsError => k_is)
    (case wr_WinsError => k_is)
    (case wv_WinsError => k_is)
    (case g_TooMany => k_is)
    (case g_BadDemand => k_is)
    (case g_BadText => k_is)
    (case g_BadSeason => k_is)
    (case g_BadCode => k_is)
    (case g_BadEvent => k_is)
    (case g_BadFoe => k_is)
    (case g_BadPaper => k_is)
    (case g_BadDisk => k_is)
    (case g_BadDeed => k_is)
    (case xc_BadLadder => k_is)
    (case xg_BadLadder => k_is)
    (case xt_BadLadder => first | k_is | kernel_rfl | rfl)
    (case xm_BadLadder => first | k_is | kernel_rfl | rfl)
    (case ki_BadLadder_TooMany => first | k_is | kernel_rfl | rfl)
    (case ki_BadLadder_BadLadder => first | k_is | kernel_rfl | rfl)
    (case ki_BadLadder_BadTable => first | k_is | kernel_rfl | rfl)
    (case ki_BadLadder_BadDemand => first | k_is | kernel_rfl | rfl)
    (case ki_BadLadder_ValueError => first | k_is | kernel_rfl | rfl)
    (case ka_BadLadder_0 => first | k_is | kernel_rfl | rfl)
    (case mm_BadLadder_WinsError => first | k_is | kernel_rfl | rfl)
    (case xc_BadTable => k_is)
    (case xg_BadTable => k_is)
    (case xt_BadTable => first | k_is | kernel_rfl | rfl)
    (case xm_BadTable => first | k_is | kernel_rfl | rfl)
    (case ki_BadTable_TooMany => first | k_is | kernel_rfl | rfl)
    (case ki_BadTable_BadLadder => first | k_is | kernel_rfl | rfl)
    (case ki_BadTable_BadTable => first | k_is | kernel_rfl | rfl)
    (case ki_BadTable_BadDemand => first | k_is | kernel_rfl | rfl)
    (case ki_BadTable_ValueError => first | k_is | kernel_rfl | rfl)
    (case ka_BadTable_0 => first | k_is | kernel_rfl | rfl)
    (case mm_BadTable_WinsError => first | k_is | kernel_rfl | rfl)
    (case at_BadLadder_init => k_is)
    (case tf_BadLadder_init => k_is)
    (case lk_BadLadder_init => k_is)
    (case co_BadLadder_init => k_is)
    (case kp_BadLadder_init => k_is)
    (case at_BadTable_init => k_is)
    (case tf_BadTable_init => k_is)
    (case lk_BadTable_init => k_is)
    (case co_BadTable_init => k_is)
    (case kp_BadTable_init => k_is)
    (case at_common => k_is)
    (case lk_common => k_is)
    (case co_common => k_is)
    (case kp_common => k_is)
    (case at_fraction => k_is)
    (case lk_fraction => k_is)
    (case co_fraction => k_is)
    (case kp_fraction => k_is)
    (case at_taken => k_is)
    (case lk_taken => k_is)
    (case co_taken => k_is)
    (case kp_taken => k_is)
    (case at_times => k_is)
    (case lk_times => k_is)
    (case co_times => k_is)
    (case kp_times => k_is)
    (case at_less => k_is)
    (case lk_less => k_is)
    (case co_less => k_is)
    (case kp_less => k_is)
    (case at_grown => k_is)
    (case lk_grown => k_is)
    (case co_grown => k_is)
    (case kp_grown => k_is)
    (case at_load_rows => k_is)
    (case lk_load_rows => k_is)
    (case co_load_rows => k_is)
    (case kp_load_rows => k_is)
    (case at_head_row => k_is)
    (case lk_head_row => k_is)
    (case co_head_row => k_is)
    (case kp_head_row => k_is)
    (case at_worth_row => k_is)
    (case lk_worth_row => k_is)
    (case co_worth_row => k_is)
    (case kp_worth_row => k_is)
    (case at_wrong_count => k_is)
    (case lk_wrong_count => k_is)
    (case co_wrong_count => k_is)
    (case kp_wrong_count => k_is)
    (case at_Prizes_init => k_is)
    (case fn_Prizes_init => k_is)
    (case lk_Prizes_init => k_is)
    (case co_Prizes_init => k_is)
    (case kp_Prizes_init => k_is)
    (case at_Prizes_ladder => k_is)
    (case fn_Prizes_ladder => k_is)
    (case lk_Prizes_ladder => k_is)
    (case co_Prizes_ladder => k_is)
    (case kp_Prizes_ladder => k_is)
    (case at_Prizes_win => k_is)
    (case fn_Prizes_win => k_is)
    (case lk_Prizes_win => k_is)
    (case co_Prizes_win => k_is)
    (case kp_Prizes_win => k_is)
    (case at_Prizes_lose => k_is)
    (case fn_Prizes_lose => k_is)
    (case lk_Prizes_lose => k_is)
    (case co_Prizes_lose => k_is)
    (case kp_Prizes_lose => k_is)
    (case at_Prizes_per_meeting => k_is)
    (case fn_Prizes_per_meeting => k_is)
    (case lk_Prizes_per_meeting => k_is)
    (case co_Prizes_per_meeting => k_is)
    (case kp_Prizes_per_meeting => k_is)
    (case at_Prizes_sums => k_is)
    (case fn_Prizes_sums => k_is)
    (case lk_Prizes_sums => k_is)
    (case co_Prizes_sums => k_is)
    (case kp_Prizes_sums => k_is)
    (case at_Prizes_claims => k_is)
    (case fn_Prizes_claims => k_is)
    (case lk_Prizes_claims => k_is)
    (case co_Prizes_claims => k_is)
    (case kp_Prizes_claims => k_is)
    (case at_Prizes_fair_entry => k_is)
    (case fn_Prizes_fair_entry => k_is)
    (case lk_Prizes_fair_entry => k_is)
    (case co_Prizes_fair_entry => k_is)
    (case kp_Prizes_fair_entry => k_is)
    (case at_Prizes_ruin_after => k_is)
    (case fn_Prizes_ruin_after => k_is)
    (case lk_Prizes_ruin_after => k_is)
    (case co_Prizes_ruin_after => k_is)
    (case kp_Prizes_ruin_after => k_is)
    (case at_bound => k_is)
    (case lk_bound => k_is)
    (case co_bound => k_is)
    (case kp_bound => k_is)
    (case at_wrong_rung => k_is)
    (case lk_wrong_rung => k_is)
    (case co_wrong_rung => k_is)
    (case kp_wrong_rung => k_is)
    (case at_Ladder_init => k_is)
    (case fn_Ladder_init => k_is)
    (case lk_Ladder_init => k_is)
    (case co_Ladder_init => k_is)
    (case kp_Ladder_init => k_is)
    (case at_Ladder_same_as => k_is)
    (case fn_Ladder_same_as => k_is)
    (case lk_Ladder_same_as => k_is)
    (case co_Ladder_same_as => k_is)
    (case kp_Ladder_same_as => k_is)
    (case at_Ladder_lanes => k_is)
    (case fn_Ladder_lanes => k_is)
    (case lk_Ladder_lanes => k_is)
    (case co_Ladder_lanes => k_is)
    (case kp_Ladder_lanes => k_is)
    (case at_Ladder_rungs => k_is)
    (case fn_Ladder_rungs => k_is)
    (case lk_Ladder_rungs => k_is)
    (case co_Ladder_rungs => k_is)
    (case kp_Ladder_rungs => k_is)
    (case at_Ladder_falls => k_is)
    (case fn_Ladder_falls => k_is)
    (case lk_Ladder_falls => k_is)
    (case co_Ladder_falls => k_is)
    (case kp_Ladder_falls => k_is)
    (case at_Ladder_returns => k_is)
    (case fn_Ladder_returns => k_is)
    (case lk_Ladder_returns => k_is)
    (case co_Ladder_returns => k_is)
    (case kp_Ladder_returns => k_is)
    (case at_Ladder_check_rung => k_is)
    (case fn_Ladder_check_rung => k_is)
    (case lk_Ladder_check_rung => k_is)
    (case co_Ladder_check_rung => k_is)
    (case kp_Ladder_check_rung => k_is)
    (case at_Ladder_check_place => k_is)
    (case fn_Ladder_check_place => k_is)
    (case lk_Ladder_check_place => k_is)
    (case co_Ladder_check_place => k_is)
    (case kp_Ladder_check_place => k_is)
    (case at_Ladder_fall => k_is)
    (case fn_Ladder_fall => k_is)
    (case lk_Ladder_fall => k_is)
    (case co_Ladder_fall => k_is)
    (case kp_Ladder_fall => k_is)
    (case at_Ladder_heads => k_is)
    (case fn_Ladder_heads => k_is)
    (case lk_Ladder_heads => k_is)
    (case co_Ladder_heads => k_is)
    (case kp_Ladder_heads => k_is)
    (case at_Ladder_weights => k_is)
    (case fn_Ladder_weights => k_is)
    (case lk_Ladder_weights => k_is)
    (case co_Ladder_weights => k_is)
    (case kp_Ladder_weights => k_is)
    (case at_law_e_named => k_is)
    (case lk_law_e_named => k_is)
    (case co_law_e_named => k_is)
    (case kp_law_e_named => k_is)
    (case at_law_e_asked => k_is)
    (case lk_law_e_asked => k_is)
    (case co_law_e_asked => k_is)
    (case kp_law_e_asked => k_is)
    (case at_law_e_refused => k_is)
    (case lk_law_e_refused => k_is)
    (case co_law_e_refused => k_is)
    (case kp_law_e_refused => k_is)
    (case at_law_e_let => k_is)
    (case lk_law_e_let => k_is)
    (case co_law_e_let => k_is)
    (case kp_law_e_let => k_is)
    (case at_law_e_falls => k_is)
    (case lk_law_e_falls => k_is)
    (case co_law_e_falls => k_is)
    (case kp_law_e_falls => k_is)
    (case at_law_e_ladder => k_is)
    (case lk_law_e_ladder => k_is)
    (case co_law_e_ladder => k_is)
    (case kp_law_e_ladder => k_is)
    (case at_law_e_low => k_is)
    (case lk_law_e_low => k_is)
    (case co_law_e_low => k_is)
    (case kp_law_e_low => k_is)
    (case at_law_e_loads => k_is)
    (case lk_law_e_loads => k_is)
    (case co_law_e_loads => k_is)
    (case kp_law_e_loads => k_is)
    (case at_law_e_heads => k_is)
    (case lk_law_e_heads => k_is)
    (case co_law_e_heads => k_is)
    (case kp_law_e_heads => k_is)
    (case at_law_e_common => k_is)
    (case lk_law_e_common => k_is)
    (case co_law_e_common => k_is)
    (case kp_law_e_common => k_is)
    (case at_law_e_fraction => k_is)
    (case lk_law_e_fraction => k_is)
    (case co_law_e_fraction => k_is)
    (case kp_law_e_fraction => k_is)
    (case at_law_stock => k_is)
    (case lk_law_stock => k_is)
    (case co_law_stock => k_is)
    (case kp_law_stock => k_is)
    (case at_law_draw => k_is)
    (case lk_law_draw => k_is)
    (case co_law_draw => k_is)
    (case kp_law_draw => k_is)
    (case at_law_matches => k_is)
    (case lk_law_matches => k_is)
    (case co_law_matches => k_is)
    (case kp_law_matches => k_is)
    (case at_law_k30_paid => k_is)
    (case lk_law_k30_paid => k_is)
    (case co_law_k30_paid => k_is)
    (case kp_law_k30_paid => k_is)
    (case at_law_k30_claims => k_is)
    (case lk_law_k30_claims => k_is)
    (case co_law_k30_claims => k_is)
    (case kp_law_k30_claims => k_is)
    (case at_law_k30_fair => k_is)
    (case lk_law_k30_fair => k_is)
    (case co_law_k30_fair => k_is)
    (case kp_law_k30_fair => k_is)
    (case at_law_k30_tellers => k_is)
    (case lk_law_k30_tellers => k_is)
    (case co_law_k30_tellers => k_is)
    (case kp_law_k30_tellers => k_is)
    (case at_law_k30_ruin => k_is)
    (case lk_law_k30_ruin => k_is)
    (case co_law_k30_ruin => k_is)
    (case kp_law_k30_ruin => k_is)
    (case at_law_k30_entries => k_is)
    (case lk_law_k30_entries => k_is)
    (case co_law_k30_entries => k_is)
    (case kp_law_k30_entries => k_is)
    (case at_law_k30_refusals => k_is)
    (case lk_law_k30_refusals => k_is)
    (case co_law_k30_refusals => k_is)
    (case kp_law_k30_refusals => k_is)
    (case vc_law_k30_refusals => k_is)
    (case v11_law_k30_refusals => rfl)
    (case hc_law_k30_refusals => first | k_is | kernel_rfl | rfl)
    (case nT_law_k30_refusals => first | k_is | kernel_rfl | rfl)
    (case tb_law_k30_refusals => exact PySem.W.km_tabs_of Y _ (by k_mem))
    (case at_law => k_is)
    (case lk_law => k_is)
    (case co_law => k_is)
    (case kp_law => k_is)
    (case vc_law => k_is)
    (case v11_law => rfl)
    (case hc_law => first | k_is | kernel_rfl | rfl)
    (case nT_law => first | k_is | kernel_rfl | rfl)
    (case tb_law => exact PySem.W.km_tabs_of Y _ (by k_mem))
    (case ne_law_law_k30_refusals => decide)
#print axioms PySem.Challenge.cw_whoeverwins_k30_prizes_claims_and_the_fa_holds

