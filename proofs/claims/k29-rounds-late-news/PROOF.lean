import PyProof.Rows.All
import Wide.All
import OpenK.AllK
import Wide.FinOn
import HandS.ForMost
import HandS.ForExc
import HandS.Wide
import HandS.StrMore
import HandS.StrSplit
import HandS.IsInst
import HandS.WrittenGet
import HandS.Walk
import HandS.Codes
import HandS.ExcInit
import HandS.Exc
import HandS.ExcOwn
import HandS.ExcField
import HandS.WordsExc
import HandS.NoneIn
import HandS.RevRange
import HandS.Zip
import HandS.HotCalls
import HandS.ExcInitHot
import HandS.Lambda
import HandS.EndTab
import KE.KExcIs
import KE.KNestM
import HandS.Conv
import HandS.TupLe
import HandS.SetFor
import PySem.Challenge.RW_whoeverwins_k29_rounds_with_late_news
set_option Elab.async false
set_option linter.all false
set_option maxRecDepth 100000
set_option maxHeartbeats 4000000
set_option Elab.async false
set_option linter.all false
set_option maxRecDepth 100000
set_option maxHeartbeats 4000000
namespace Rl
open PySem PySem.Spec PyProof.Rows L2

section
variable {X : Cx}
/-- xs[i] of a list, for an augmented store -/
theorem get_list : PGet X (rIxL X.K) := by
  intro pins s σ H x y v u Q I rx ry h
  obtain ⟨p, xs, i, z, rfl, rfl, hq, he, q⟩ := h
  cases rx
  obtain ⟨t, rfl⟩ := ry
  obtain ⟨its, r, pl, hz⟩ := I.list hq
  obtain ⟨j, h1, h2, h3, h4, h5⟩ := atI_get he
  obtain ⟨w, ew, rw'⟩ := r.get h2
  have hl := r.length
  have hn := line63
  have fin : EP X pins σ Q w s := ⟨z, H, I, rw', q⟩
  by_cases h0 : 0 ≤ i
  · have hj : i.toNat = j := by
      rw [seqIndex_of h0 h5] at h1
      exact Option.some.inj h1
    exact wpAny_getItem_list pl.isList h0 (by omega) (by rw [hj]; simpa using ew) fin
  · have hj : (i + (its.toArray.size : Int)).toNat = j := by
      rw [seqIndex_neg (by omega) h4] at h1
      rw [List.size_toArray, ← hl]
      exact Option.some.inj h1
    exact wpAny_getItem_list_neg pl.isList (by omega) (by rw [List.size_toArray] <;> omega) (by omega) (by rw [hj]; simpa using ew) fin
end

/-! enumerate of a text -/
def ItS (x : Str) : It :=
  ⟨fun i _ => i < x.cps.size, fun i H v H' => ∃ T c, v = .ref T ∧ H T = none ∧ H' = upd H T (.tup [.int (i : Nat), .str ⟨#[c]⟩]) ∧ x.cps[i]? = some c, fun i _ => x.cps.size ≤ i⟩
theorem drawsS {P : Program} {w : World} {A : Around} (hh : A.handled = none) (it : Addr) (x : Str) (t : Tok) :
    PySem.Draws P w A it [it] x.cps.size (fun i v => ∃ c u, x.cps[i]? = some c ∧ v = .str ⟨#[c]⟩ u) (fun i h => h.IsStrIter it (strIterType x) x t i) := by
  unfold strIterType
  cases x.cps.all (· < 128)
  · exact Draws.strWide hh it x t
  · exact Draws.strAscii hh it x t
theorem turn_enumS {P : Program} {w : World} {K : PySem.W.Frag} {elts : List Expr} {kk : Nat} {tpos : Pos} (x : Str) (t : Tok) (e it : Addr) :
    Turn P w K (.Tuple elts kk tpos) (ItS x) [e, it] e (fun i h => (∃ old, IsEnum h e it ((i : Nat) : Int) old) ∧ h.IsStrIter it (strIterType x) x t i ∧ e ≠ it ∧ i ≤ x.cps.size) where
  mem := by simp
  obj := fun i h st b hb => by
    obtain ⟨⟨old, he⟩, ⟨o, ho, hc, hd⟩, _, _⟩ := st
    have e' : b = e ∨ b = it := by simpa using hb
    rcases e' with z | z
    · rw [z]; exact ⟨_, he, fun v q => nomatch q⟩
    · rw [z]; exact ⟨o, ho, fun v q => by rw [hd] at q; cases q⟩
  keep := fun i h h' st k => let ⟨⟨old, he⟩, hi, hne⟩ := st; ⟨⟨old, k e (by simp) _ he⟩, let ⟨o, ho, r⟩ := hi; ⟨o, k it (by simp) o ho, r⟩, hne⟩
  item := by
    intro X hP hw hK hc i pins s σ H E I hf st hg
    subst hP hw hK
    obtain ⟨⟨old, he⟩, hit, hne, hle⟩ := st
    have hel : e < s.heap.objs.size := Heap.lt_size he
    have hil : it < s.heap.objs.size := by obtain ⟨_, q, _⟩ := hit; exact Heap.lt_size q
    have D := drawsS (P := X.prog) (w := X.w) (A := X.A.in1) (I.ok.hd hc) it x t
    refine wpAny_pyNext_enum_itemD D he hit hg hne (by simpa using hne) fun y h' tk hP ho hit' hT hsz hk => ?_
    obtain ⟨c, u, hcx, rfl⟩ := hP
    refine ⟨_, rfl, wpAny_letOwnedTupleGo_enum (s := { s with heap := h', toks := tk + 1 }) ho fun h'' he' sb => ?_⟩
    have hT2 : h''.get? s.heap.objs.size = some { cls := .type "tuple", data := .seq #[.int i tk, .str ⟨#[c]⟩ u] } := (sb.2 _ (Nat.ne_of_gt hel)).trans hT
    have new : ObjOk X.prog X.w (upd H s.heap.objs.size (.tup [.int (i : Nat), .str ⟨#[c]⟩])) h'' s.heap.objs.size (.tup [.int (i : Nat), .str ⟨#[c]⟩]) :=
      ⟨by show 2 ≤ sizeLine; decide, [.int i tk, .str ⟨#[c]⟩ u], .cons ⟨_, rfl⟩ (.cons ⟨_, rfl⟩ .nil), ⟨_, hT2, rfl, _, rfl⟩⟩
    have I1 : Inv X pins σ (upd H s.heap.objs.size (.tup [.int (i : Nat), .str ⟨#[c]⟩])) { s with heap := h'', toks := tk + 1 } :=
      I.turnedNew (ch := [e, it]) (fun b ob hb q => (sb.2 b (fun z => hb (by simp [z]))).trans (hk b ob (fun z => hb (by simp [z])) (fun z => hb (by simp [z])) q)) hf (Nat.le_refl _) new
    refine ⟨.ref s.heap.objs.size, _, I1, rfl, ⟨_, c, rfl, I.hok.fresh (Nat.le_refl _), rfl, hcx⟩, ⟨⟨.str ⟨#[c]⟩ u, ?_⟩, ?_, hne, hg⟩, fun b hb => ?_⟩
    · have e1 : ((i + 1 : Nat) : Int) = (i : Int) + 1 := by omega
      rw [e1]; exact he'
    · obtain ⟨o, ho', r⟩ := hit'
      exact ⟨o, (sb.2 it (Ne.symm hne)).trans ho', r⟩
    · have hb' : b < s.heap.objs.size := by
        have e' : b = e ∨ b = it := by simpa using hb
        rcases e' with z | z
        · rw [z]; exact hel
        · rw [z]; exact hil
      rw [upd_ne (Nat.ne_of_lt hb')]
      exact (hf b hb).1
  done := by
    intro X hP hw hK hc i pins s σ H E I hf st hg
    subst hP hw hK
    obtain ⟨⟨old, he⟩, hit, hne, hle⟩ := st
    obtain ⟨f0, f1, f2, f3, f4, f5⟩ := hf it (by simp)
    have D := drawsS (P := X.prog) (w := X.w) (A := X.A.in1) (I.ok.hd hc) it x t
    have hge : x.cps.size ≤ i := hg
    have e1 : i = x.cps.size := Nat.le_antisymm hle hge
    subst e1
    exact wpAny_pyNext_enum_endD D he hit fun h' eb => ⟨rfl, I.turned (t' := s.toks) (fun b o hb q => eb b o hb q) f0 f1 f3 f4 f5⟩
  self := fun A i s Q E st h => let ⟨⟨_, he⟩, _⟩ := st; wpAny_pyIter_enum he h
def iEnumS (ta : TA) : TI := fun σ H R => ta σ H fun vs H1 => ∃ x, vs = [.str x] ∧ R (ItS x) H1
theorem pi_enumS {X : Cx} {e : Expr} {ta : TA} {p pos tpos : Pos} {elts : List Expr} {kk : Nat} (hg : Gl X "enumerate") (hm : X.mg "enumerate" = none) (ha : PA X [e] ta) (hs : starEach [e] X.env = [(false, eval e X.env)] := by rfl) :
    PI X (.Tuple elts kk tpos) (.Call (.Name "enumerate" p) [e] [] pos) (iEnumS ta) := by
  refine ⟨fun pins s σ H R I h => ?_⟩
  refine Call_ (ld_blt I hg hm boot_enumerate (PyProof.Rows.callWith_type1 (thn (ha.run pos pins s σ H _ I h) fun us s1 ⟨vs, H1, I1, r1, q1⟩ => ?_) hs rfl))
  obtain ⟨x, ex, q⟩ := q1
  subst ex
  cases r1 with
  | cons r rr =>
    cases rr
    obtain ⟨t, rfl⟩ := r
    refine call_enumerate_str fun h' he hit hsz hk => wpAny_pyIter_enum he ?_
    have I2 : Inv X pins σ H1 { s1 with heap := h' } := I1.kept (t' := s1.toks) hk
    refine ⟨s1.heap.objs.size + 1, [s1.heap.objs.size + 1, s1.heap.objs.size], _, _, H1, rfl, I2, turn_enumS x t (s1.heap.objs.size + 1) s1.heap.objs.size, ⟨⟨.none, he⟩, hit, Nat.succ_ne_self _, Nat.zero_le _⟩, fun b hb => ?_, q⟩
    have e' : b = s1.heap.objs.size + 1 ∨ b = s1.heap.objs.size := by simpa using hb
    have hle : s1.heap.objs.size ≤ b := by
      rcases e' with z | z
      · rw [z]; exact Nat.le_add_right _ _
      · rw [z]; exact Nat.le_refl _
    exact I1.fpOk hle (I1.hok.fresh hle)
end Rl

set_option Elab.async false
set_option linter.all false
set_option maxRecDepth 100000
set_option maxHeartbeats 4000000
namespace Eg
open PySem PySem.Spec PyProof.Rows L2 Rl

/-! operators by values, every kind that the texts use -/
def uAdd (K : PySem.W.Frag) : R2 := fun x y H Q => rI0 (fun i j => .int (i + j)) x y H Q ∨ (∃ i j, x = .str i ∧ y = .str j ∧ i.length + j.length ≤ sizeLine ∧ Q (.str (i ++ j)) H) ∨ rCat x y H Q ∨ rCatT K x y H Q
def uMul : R2 := rI (fun i j => CMul i j ∨ CMulW i j) fun i j => .int (i * j)
def uDiv : R2 := rI (fun i j => CDiv i j ∨ CDivW i j) fun i j => .int (i / j)
def uEq (K : PySem.W.Frag) : R2 := fun x y H Q => rEq x y H Q ∨ rEqD K x y H Q
def uNe (K : PySem.W.Frag) : R2 := fun x y H Q => rNe x y H Q ∨ rNeD K x y H Q
def uIn (K : PySem.W.Frag) : R2 := fun x y H Q => (∃ (c : Nat) (z : Str), x = .str ⟨#[c]⟩ ∧ y = .str z ∧ Q (.bl (decide (c ∈ z.cps.toList))) H) ∨ rIn K false x y H Q
def uNotIn (K : PySem.W.Frag) : R2 := fun x y H Q => (∃ (c : Nat) (z : Str), x = .str ⟨#[c]⟩ ∧ y = .str z ∧ Q (.bl (!decide (c ∈ z.cps.toList))) H) ∨ rIn K true x y H Q
def uLen (K : PySem.W.Frag) : List V → Hp → VK → Prop := fun xs H Q => ∃ x n, xs = [x] ∧ LenV K x H n ∧ Q (.int n) H
section
variable {X : Cx}
theorem op_uAdd : OpR X (binaryOp .Add) (uAdd X.K) := op_add.or (op_add_str.or (op_cat.or op_catT))
theorem op_uMul : OpR X (binaryOp .Mult) uMul := by
  intro pins s σ H x y v u Q I rx ry h
  obtain ⟨i, j, e1, e2, hc, q⟩ := h
  rcases hc with hc | hc
  · exact op_mul pins s σ H x y v u Q I rx ry ⟨i, j, e1, e2, hc, q⟩
  · exact op_mulW pins s σ H x y v u Q I rx ry ⟨i, j, e1, e2, hc, q⟩
theorem op_uDiv : OpR X (binaryOp .FloorDiv) uDiv := by
  intro pins s σ H x y v u Q I rx ry h
  obtain ⟨i, j, e1, e2, hc, q⟩ := h
  rcases hc with hc | hc
  · exact op_fdiv pins s σ H x y v u Q I rx ry ⟨i, j, e1, e2, hc, q⟩
  · exact op_fdivW pins s σ H x y v u Q I rx ry ⟨i, j, e1, e2, hc, q⟩
theorem op_uEq (hu : X.A.units + 64 < cLine) : OpR X (compareOp .Eq) (uEq X.K) := op_eq.or (op_eqD hu)
theorem op_uNe (hu : X.A.units + 64 < cLine) : OpR X (compareOp .NotEq) (uNe X.K) := op_ne.or (op_neD hu)
theorem op_uIn : OpR X (compareOp .In) (uIn X.K) := op_in_sign.or op_in_seq
theorem op_uNotIn : OpR X (compareOp .NotIn) (uNotIn X.K) := op_notIn_sign.or op_notIn_seq
theorem call_uLen : CallR X (.builtin "len") (uLen X.K) := call_len
def uInt : List V → Hp → VK → Prop := fun xs H Q => ((∃ i, xs = [.int i] ∧ Q (.int i) H) ∨ ∃ k, xs = [.bl k] ∧ Q (.int (if k then 1 else 0)) H) ∨ ∃ a n, xs = [.str a] ∧ PySem.intText? a = some n ∧ a.length ≤ 640 ∧ Q (.int n) H
theorem call_uInt : CallR X (.type "int") uInt := call_int1.or call_int_str
def uSl (K : PySem.W.Frag) : V → Option Int → Option Int → Hp → VK → Prop := fun x lo hi H Q => rSlL K x lo hi H Q ∨ rSlT K x lo hi H Q ∨ rSlS x lo hi H Q
theorem sl_u : SlR X (uSl X.K) := sl_list.or (sl_tup.or sl_str)
def uTru (K : PySem.W.Frag) (t : TE) : TT := fun σ H Q => t σ H fun x H1 => ∃ k, TruV K x H1 k ∧ Q k H1
end

/-! a def of the text, called by its name; a method -/
structure Dfn (P : Program) (w : World) (K : PySem.W.Frag) (mg : Str → Option Value) (base : Heap) (k : Nat) (x : Str) (ps : List Str) (sp : Sp) : Prop where
  ex : ∃ (f : Addr) (fd : FuncData), FnOk P w K mg base CX0 k f fd ps sp ∧ mg x = some (.ref f) ∧ PySem.W.keepIn K (.ref f) = true ∧ Binds K fd ps []
structure Mth (P : Program) (w : World) (K : PySem.W.Frag) (mg : Str → Option Value) (base : Heap) (k : Nat) (C : Addr) (x : Str) (ps : List Str) (sp : Sp) : Prop where
  ex : ∃ (f : Addr) (fd : FuncData), FnOk P w K mg base CX0 k f fd ps sp ∧ Meth K C x f ∧ Binds K fd ps []
  cl : Cls K C
structure Ini (P : Program) (w : World) (K : PySem.W.Frag) (mg : Str → Option Value) (base : Heap) (k : Nat) (x : Str) (C : Addr) (ps : List Str) (sp : Sp) : Prop where
  ex : ∃ (f : Addr) (fd : FuncData), FnOk P w K mg base CX0 k f fd ps sp ∧ Mk K C f ∧ mg x = some (.ref C) ∧ Binds K fd ps []
section
variable {X : Cx} {k : Nat} {x : Str} {ps : List Str} {sp : Sp} {p pos : Pos} {e : Expr} {es : List Expr} {t : TA} {C : Addr}
theorem pe_dfn (D : Dfn X.prog X.w X.K X.mg X.base k x ps sp) (hr : Room k X.A) (hg : Gl X x) (ha : PA X (e :: es) t)
    (hdb : (x == ("__debug__" : Str)) = false := by decide) (he : starEach (e :: es) X.env = (false, eval e X.env) :: starEach es X.env := by rfl) (hpl : (backTo pos (starEach es X.env)).any (·.1) = false := by rfl) :
    PE X (.Call (.Name x p) (e :: es) [] pos) (tCall sp [] E0 t) := by
  obtain ⟨f, fd, F, hm, hk, hb⟩ := D.ex
  exact pe_call F hr hg hm hk hb .nil pass0 ha hdb he hpl
theorem pe_dfn0 (D : Dfn X.prog X.w X.K X.mg X.base k x ps sp) (hr : Room k X.A) (hg : Gl X x)
    (hdb : (x == ("__debug__" : Str)) = false := by decide) :
    PE X (.Call (.Name x p) [] [] pos) (tCall sp [] E0 tNil) := by
  obtain ⟨f, fd, F, hm, hk, hb⟩ := D.ex
  exact pe_call0 F hr hg hm hk hb .nil pass0 hdb
variable {o : Expr} {apos : Pos} {m : Str} {ta : TE}
theorem pe_mth (D : Mth X.prog X.w X.K X.mg X.base k C m ps sp) (hr : Room k X.A) {pl : Sem Bool} (he : PE X o ta) (ha : PA X (e :: es) t)
    (hst : starEach (e :: es) X.env = (false, eval e X.env) :: starEach es X.env := by rfl) (hpl : (backTo pos (starEach es X.env)).any (·.1) = false := by rfl)
    (ht : eval (.Call (.Attribute o m apos) (e :: es) [] pos) X.env = (do
      let ov ← eval o X.env
      standAt apos.atName
      let (f, first) ← holding [ov] (getMethod ov m pl)
      callWith pos f first (backTo pos (starEach (e :: es) X.env)) (backToKw pos (keywordEach [] X.env))) := by rfl) :
    PE X (.Call (.Attribute o m apos) (e :: es) [] pos) (tMeth C m sp [] E0 ta t) := by
  obtain ⟨f, fd, F, hm, hb⟩ := D.ex
  exact pe_meth he D.cl hm F hr hb .nil pass0 ha hst hpl ht
theorem pe_mth0 (D : Mth X.prog X.w X.K X.mg X.base k C m ps sp) (hr : Room k X.A) {pl : Sem Bool} (he : PE X o ta)
    (ht : eval (.Call (.Attribute o m apos) [] [] pos) X.env = (do
      let ov ← eval o X.env
      standAt apos.atName
      let (f, first) ← holding [ov] (getMethod ov m pl)
      callWith pos f first (backTo pos (starEach [] X.env)) (backToKw pos (keywordEach [] X.env))) := by rfl) :
    PE X (.Call (.Attribute o m apos) [] [] pos) (tMeth C m sp [] E0 ta tNil) := by
  obtain ⟨f, fd, F, hm, hb⟩ := D.ex
  exact pe_meth0 he D.cl hm F hr hb .nil pass0 ht
theorem pe_ini (D : Ini X.prog X.w X.K X.mg X.base k x C ps sp) (hr : Room (k + 1) X.A) (hg : Gl X x) (ha : PA X (e :: es) t)
    (hdb : (x == ("__debug__" : Str)) = false := by decide) (he : starEach (e :: es) X.env = (false, eval e X.env) :: starEach es X.env := by rfl) (hpl : (backTo pos (starEach es X.env)).any (·.1) = false := by rfl) :
    PE X (.Call (.Name x p) (e :: es) [] pos) (tMake C sp [] E0 t) := by
  obtain ⟨f, fd, F, M, hm, hb⟩ := D.ex
  exact pe_make M F hr hg hm hb .nil pass0 ha hdb he hpl
/-- a module's constant -/
theorem pe_gi {n : Int} (h : ∃ t, X.mg x = some (.int n t)) (hg : Gl X x := by rfl) (hd : (x == ("__debug__" : Str)) = false := by decide) : PE X (.Name x p) (tC (.int n)) := by
  obtain ⟨t, h⟩ := h
  exact pe_glob (v := .int n) hg h ⟨_, rfl⟩ hd
theorem pe_gs {z : Str} (h : ∃ t, X.mg x = some (.str z t)) (hg : Gl X x := by rfl) (hd : (x == ("__debug__" : Str)) = false := by decide) : PE X (.Name x p) (tC (.str z)) := by
  obtain ⟨t, h⟩ := h
  exact pe_glob (v := .str z) hg h ⟨_, rfl⟩ hd
theorem pe_gr {a : Addr} (h : X.mg x = some (.ref a)) (hg : Gl X x := by rfl) (hd : (x == ("__debug__" : Str)) = false := by decide) : PE X (.Name x p) (tC (.ref a)) := pe_glob (v := .ref a) hg h rfl hd
theorem pt_u (ha : PE X o ta) (he : ∀ whole, isTrue o X.env whole = (do let v ← whole; standAt o.pos; holding [v] (truthy v)) := by intro _; rfl) : PT X o (uTru X.K ta) := pt_truth ha he
end

/-! stepping through a reading -/
section
variable {K : PySem.W.Frag} {σ : L2.St} {H : Hp} {ta tb te tl th : TE} {t u : TT} {x y z v : V} {D : Ends} {tu tw tz : TS} {tr : TA} {Q : VK} {E : XK} {r : R2} {i j : Nat} {g : TG}
theorem i_var (h : σ[i]? = some (some v)) (k : Q v H) : tVar i σ H Q := ⟨v, h, k⟩
theorem i_c (k : Q v H) : tC v σ H Q := k
theorem i_op (k : ta σ H fun x H1 => tb σ H1 fun y H2 => r x y H2 Q) : tOp r ta tb σ H Q := k
theorem i_un {r : V → Hp → VK → Prop} (k : ta σ H fun x H1 => r x H1 Q) : tUn r ta σ H Q := k
theorem i_nil {Q : List V → Hp → Prop} (k : Q [] H) : tNil σ H Q := k
theorem i_cons {Q : List V → Hp → Prop} (k : te σ H fun x H1 => tr σ H1 fun xs H2 => Q (x :: xs) H2) : tCons te tr σ H Q := k
theorem i_tup (k : tr σ H fun xs H1 => xs.length ≤ sizeLine ∧ ∀ p, H1 p = none → Q (.ref p) (upd H1 p (.tup xs))) : tTup tr σ H Q := k
theorem i_lst (k : tr σ H fun xs H1 => xs.length ≤ sizeLine ∧ ∀ p, H1 p = none → Q (.ref p) (upd H1 p (.lst xs))) : tLst tr σ H Q := k
theorem i_cb {r : List V → Hp → VK → Prop} (k : tr σ H fun vs H1 => r vs H1 Q) : tCB r tr σ H Q := k
theorem i_call {sp : Sp} (k : tr σ H fun vs H1 => sp vs H1 Q E) : tCall sp [] E tr σ H Q := by
  unfold tCall
  simp only [List.append_nil]
  exact k
def gMeth (C : Addr) (m : Str) (sp : Sp) (E : XK) (t : TA) (x : V) (σ : L2.St) (H : Hp) (Q : VK) : Prop := ∃ a dx fs, x = .ref a ∧ H a = some (.ins C dx fs) ∧ fs.lookup m = none ∧ t σ H fun vs H2 => sp (x :: vs) H2 Q E
theorem i_meth {C : Addr} {m : Str} {sp : Sp} (k : te σ H fun x H1 => gMeth C m sp E tr x σ H1 Q) : tMeth C m sp [] E te tr σ H Q := by
  unfold tMeth
  simp only [List.append_nil]
  exact k
theorem g_meth {C dx a : Addr} {m : Str} {sp : Sp} {fs : List (Str × V)} (h : H a = some (.ins C dx fs)) (l : fs.lookup m = none) (k : tr σ H fun vs H2 => sp (.ref a :: vs) H2 Q E) : gMeth C m sp E tr (.ref a) σ H Q := ⟨a, dx, fs, rfl, h, l, k⟩
def gFld (K : PySem.W.Frag) (f : Str) (x : V) (H : Hp) (Q : VK) : Prop := ∃ a C dx fs v, x = .ref a ∧ H a = some (.ins C dx fs) ∧ Cls K C ∧ NoAttr K C f ∧ fs.lookup f = some v ∧ Q v H
theorem i_fld {f : Str} (k : te σ H fun x H1 => gFld K f x H1 Q) : tFld K te f σ H Q := k
theorem g_fld {C dx a : Addr} {f : Str} {fs : List (Str × V)} (h : H a = some (.ins C dx fs)) (c : Cls K C) (n : NoAttr K C f) (l : fs.lookup f = some v) (k : Q v H) : gFld K f (.ref a) H Q := ⟨a, C, dx, fs, v, rfl, h, c, n, l, k⟩
theorem i_make {C : Addr} {sp : Sp} (k : tr σ H fun vs H1 => ∀ x dx, H1 x = none → H1 dx = none → dx ≠ x → sp (.ref x :: vs) (upd (upd H1 dx (.own x)) x (.ins C dx [])) (fun v H2 => v = .non ∧ Q (.ref x) H2) E) : tMake C sp [] E tr σ H Q := by
  unfold tMake
  simp only [List.append_nil]
  exact k
theorem i_if (k : t σ H fun c H1 => if c = true then ta σ H1 Q else tb σ H1 Q) : tIf t ta tb σ H Q := k
theorem i_sl {r : V → Option Int → Option Int → Hp → VK → Prop} {tl th : TO} (k : te σ H fun x H1 => tl σ H1 fun l H2 => th σ H2 fun u H3 => r x l u H3 Q) : tSl r te tl th σ H Q := k
theorem i_nopart {Q : Option Int → Hp → Prop} (k : Q none H) : tNoPart σ H Q := k
def gPart (x : V) (H : Hp) (Q : Option Int → Hp → Prop) : Prop := ∃ i, x = .int i ∧ Q (some i) H
theorem i_part {Q : Option Int → Hp → Prop} (k : te σ H fun x H1 => gPart x H1 Q) : tPart te σ H Q := k
theorem g_part {n : Int} {Q : Option Int → Hp → Prop} (k : Q (some n) H) : gPart (.int n) H Q := ⟨n, rfl, k⟩
/- tests -/
def gB (x : V) (H : Hp) (Q : Bool → Hp → Prop) : Prop := ∃ k, x = .bl k ∧ Q k H
theorem i_test {Q : Bool → Hp → Prop} (k : te σ H fun x H1 => gB x H1 Q) : tTest te σ H Q := k
theorem i_tB {Q : Bool → Hp → Prop} (k : te σ H fun x H1 => gB x H1 Q) : tB te σ H Q := k
theorem g_b {b : Bool} {Q : Bool → Hp → Prop} (k : Q b H) : gB (.bl b) H Q := ⟨b, rfl, k⟩
def gTru (K : PySem.W.Frag) (x : V) (H : Hp) (Q : Bool → Hp → Prop) : Prop := ∃ k, TruV K x H k ∧ Q k H
theorem i_tru {Q : Bool → Hp → Prop} (k : te σ H fun x H1 => gTru K x H1 Q) : uTru K te σ H Q := k
theorem g_truB {b : Bool} {Q : Bool → Hp → Prop} (k : Q b H) : gTru K (.bl b) H Q := ⟨b, rfl, k⟩
theorem i_and {Q : Bool → Hp → Prop} (k : t σ H fun c H1 => if c = true then u σ H1 Q else Q false H1) : tAnd t u σ H Q := k
theorem i_or {Q : Bool → Hp → Prop} (k : t σ H fun c H1 => if c = true then Q true H1 else u σ H1 Q) : tOr t u σ H Q := k
theorem i_not {Q : Bool → Hp → Prop} (k : t σ H fun c H1 => Q (!c) H1) : tNot t σ H Q := k
def gAndV (tb : TE) (x : V) (σ : L2.St) (H : Hp) (Q : VK) : Prop := ∃ c, x = .bl c ∧ if c = true then tb σ H Q else Q (.bl false) H
def gOrV (tb : TE) (x : V) (σ : L2.St) (H : Hp) (Q : VK) : Prop := ∃ c, x = .bl c ∧ if c = true then Q (.bl true) H else tb σ H Q
def gNotV (x : V) (H : Hp) (Q : VK) : Prop := ∃ c, x = .bl c ∧ Q (.bl (!c)) H
theorem i_andV (k : ta σ H fun x H1 => gAndV tb x σ H1 Q) : tAndV ta tb σ H Q := k
theorem i_orV (k : ta σ H fun x H1 => gOrV tb x σ H1 Q) : tOrV ta tb σ H Q := k
theorem i_notV (k : ta σ H fun x H1 => gNotV x H1 Q) : tNotV ta σ H Q := k
theorem g_andV {c : Bool} (k : if c = true then tb σ H Q else Q (.bl false) H) : gAndV tb (.bl c) σ H Q := ⟨c, rfl, k⟩
theorem g_orV {c : Bool} (k : if c = true then Q (.bl true) H else tb σ H Q) : gOrV tb (.bl c) σ H Q := ⟨c, rfl, k⟩
theorem g_notV {c : Bool} (k : Q (.bl (!c)) H) : gNotV (.bl c) H Q := ⟨c, rfl, k⟩
/- statements -/
theorem i_next (k : D.nx σ H) : tNext D σ H := k
theorem i_seq {a c d : L2.St → Hp → Prop} {b : VK} (k : tu ⟨tz ⟨a, b, c, d⟩, b, c, d⟩ σ H) : tSeq tu tz ⟨a, b, c, d⟩ σ H := k
theorem i_seqN {a c d : L2.St → Hp → Prop} {b : VK} (k : ∀ N : L2.St → Hp → Prop, (∀ σ' H', tz ⟨a, b, c, d⟩ σ' H' → N σ' H') → tu ⟨N, b, c, d⟩ σ H) : tSeq tu tz ⟨a, b, c, d⟩ σ H := k _ fun _ _ h => h
theorem t_nx {N M : L2.St → Hp → Prop} (h : ∀ σ' H', M σ' H' → N σ' H') (k : M σ H) : N σ H := h _ _ k
theorem i_asg (k : te σ H fun x H1 => g x σ H1 D.nx) : tAsg te g D σ H := k
theorem i_name {Q : L2.St → Hp → Prop} {σ' : L2.St} (e : σ.set i (some v) = σ') (k : Q σ' H) : gName i v σ H Q := by
  subst e
  exact k
theorem i_drop (k : te σ H fun _ H1 => D.nx σ H1) : tDrop te D σ H := k
theorem i_ret (k : te σ H D.rt) : tRet te D σ H := k
theorem i_retN (k : D.rt .non H) : tRetN D σ H := k
theorem i_ifS (k : t σ H fun b H1 => if b = true then tu D σ H1 else tw D σ H1) : tIfS t tu tw D σ H := k
theorem i_aug {ti : TIp} (h : σ[i]? = some (some x)) (k : te σ H fun y H1 => ti x y H1 fun z H2 => D.nx (σ.set i (some z)) H2) : tAug i te ti D σ H := ⟨x, h, k⟩
theorem g_ipI {f : Int → Int → Int} {m n : Int} (k : Q (.int (f m n)) H) : ipI f (.int m) (.int n) H Q := ⟨m, n, rfl, rfl, k⟩
theorem i_augS {to ti : TE} {tget : V → V → Hp → VK → Prop} {tip : TIp} {tset : TSet} (k : to σ H fun o H1 => ti σ H1 fun i H2 => tget o i H2 fun x H3 => te σ H3 fun y H4 => tip x y H4 fun z H5 => tset o i z H5 fun H6 => D.nx σ H6) : tAugS to ti te tget tip tset D σ H := k
def gSfld (K : PySem.W.Frag) (f : Str) (x y : V) (H : Hp) (Q : Hp → Prop) : Prop := ∃ a C dx fs, x = .ref a ∧ H a = some (.ins C dx fs) ∧ Cls K C ∧ NoAttr K C f ∧ fs.length < 1000 ∧ Q (upd H a (.ins C dx (putF f y fs)))
theorem i_sub {to ti : TE} {t : TSet} {Q : L2.St → Hp → Prop} (k : to σ H fun o H1 => ti σ H1 fun i H2 => t o i v H2 fun H3 => Q σ H3) : gSub to ti t v σ H Q := k
theorem p_nx {a c d : L2.St → Hp → Prop} {b : VK} (k : a σ H) : Ends.nx ⟨a, b, c, d⟩ σ H := k
theorem p_bk {a c d : L2.St → Hp → Prop} {b : VK} (k : c σ H) : Ends.bk ⟨a, b, c, d⟩ σ H := k
theorem p_ct {a c d : L2.St → Hp → Prop} {b : VK} (k : d σ H) : Ends.ct ⟨a, b, c, d⟩ σ H := k
theorem p_rt {a c d : L2.St → Hp → Prop} {b : VK} (k : b v H) : Ends.rt ⟨a, b, c, d⟩ v H := k
/- operators -/
theorem g_I0 {g : Int → Int → V} {m n : Int} (k : Q (g m n) H) : rI0 g (.int m) (.int n) H Q := ⟨m, n, rfl, rfl, k⟩
theorem g_I {C : Int → Int → Prop} {g : Int → Int → V} {m n : Int} (c : C m n) (k : Q (g m n) H) : rI C g (.int m) (.int n) H Q := ⟨m, n, rfl, rfl, c, k⟩
theorem g_neg {m : Int} (k : Q (.int (-m)) H) : rU (fun i => .int (-i)) (.int m) H Q := ⟨m, rfl, k⟩
theorem g_addI {m n : Int} (k : Q (.int (m + n)) H) : uAdd K (.int m) (.int n) H Q := .inl ⟨m, n, rfl, rfl, k⟩
theorem g_addS {m n : Str} (c : m.length + n.length ≤ sizeLine) (k : Q (.str (m ++ n)) H) : uAdd K (.str m) (.str n) H Q := .inr (.inl ⟨m, n, rfl, rfl, c, k⟩)
theorem g_addL {a b : Addr} {xs ys : List V} (ha : H a = some (.lst xs)) (hb : H b = some (.lst ys)) (c : xs.length + ys.length ≤ sizeLine) (k : ∀ p, H p = none → Q (.ref p) (upd H p (.lst (xs ++ ys)))) : uAdd K (.ref a) (.ref b) H Q := .inr (.inr (.inl ⟨a, b, xs, ys, rfl, rfl, ha, hb, c, k⟩))
theorem g_mul {m n : Int} (c : CMul m n ∨ CMulW m n) (k : Q (.int (m * n)) H) : uMul (.int m) (.int n) H Q := ⟨m, n, rfl, rfl, c, k⟩
theorem g_div {m n : Int} (c : CDiv m n ∨ CDivW m n) (k : Q (.int (m / n)) H) : uDiv (.int m) (.int n) H Q := ⟨m, n, rfl, rfl, c, k⟩
theorem dec_I {m n : Int} : decide (V.int m = V.int n) = decide (m = n) := by
  by_cases h : m = n
  · subst h; simp
  · rw [decide_eq_false h, decide_eq_false (fun q => h (V.int.inj q))]
theorem dec_S {m n : Str} : decide (V.str m = V.str n) = decide (m = n) := by
  by_cases h : m = n
  · subst h; simp
  · rw [decide_eq_false h, decide_eq_false (fun q => h (V.str.inj q))]
theorem g_eqI {m n : Int} (k : Q (.bl (decide (m = n))) H) : uEq K (.int m) (.int n) H Q := .inl ⟨rfl, by rw [dec_I]; exact k⟩
theorem g_neI {m n : Int} (k : Q (.bl (!decide (m = n))) H) : uNe K (.int m) (.int n) H Q := .inl ⟨rfl, by rw [dec_I]; exact k⟩
theorem g_eqS {m n : Str} (k : Q (.bl (decide (m = n))) H) : uEq K (.str m) (.str n) H Q := .inl ⟨rfl, by rw [dec_S]; exact k⟩
theorem g_neS {m n : Str} (k : Q (.bl (!decide (m = n))) H) : uNe K (.str m) (.str n) H Q := .inl ⟨rfl, by rw [dec_S]; exact k⟩
theorem g_isN (k : Q (.bl (decide (x = .non))) H) : (fun (x y : V) (H : Hp) (Q : VK) => y = .non ∧ Q (.bl (decide (x = .non))) H) x .non H Q := ⟨rfl, k⟩
theorem g_ixL {p : Addr} {xs : List V} {n : Int} (h : SqL K H p xs) (a : atI xs n = some v) (k : Q v H) : rIx K (.ref p) (.int n) H Q := .inl ⟨p, xs, n, v, rfl, rfl, h, a, k⟩
theorem g_ixT {p : Addr} {xs : List V} {n : Int} (h : SqT K H p xs) (a : atI xs n = some v) (k : Q v H) : rIx K (.ref p) (.int n) H Q := .inr (.inl ⟨p, xs, n, v, rfl, rfl, h, a, k⟩)
theorem g_ixS {w : Str} {n : Int} {c : Nat} (h : w.length ≤ sizeLine) (a : atI w.cps.toList n = some c) (k : Q (.str ⟨#[c]⟩) H) : rIx K (.str w) (.int n) H Q := .inr (.inr ⟨w, n, c, rfl, rfl, h, a, k⟩)
theorem g_ixLg {p : Addr} {xs : List V} {n : Int} (h : SqL K H p xs) (a : atI xs n = some v) (k : Q v H) : rIxL K (.ref p) (.int n) H Q := ⟨p, xs, n, v, rfl, rfl, h, a, k⟩
theorem g_setL {p : Addr} {xs ys : List V} {n : Int} {j : Nat} {Q : Hp → Prop} (h : H p = some (.lst xs)) (a : ixN xs.length n = some j) (e : xs.set j v = ys) (k : Q (upd H p (.lst ys))) : rSetL (.ref p) (.int n) v H Q := ⟨p, xs, n, j, rfl, rfl, h, a, by rw [e]; exact k⟩
theorem g_slS {w : Str} {lo hi : Option Int} (h : w.length ≤ sizeLine) (k : Q (.str (cutS w lo hi)) H) : uSl K (.str w) lo hi H Q := .inr (.inr ⟨w, rfl, h, k⟩)
theorem g_slL {p : Addr} {xs : List V} {lo hi : Option Int} (h : SqL K H p xs) (k : ∀ q, H q = none → Q (.ref q) (upd H q (.lst (cutV xs lo hi)))) : uSl K (.ref p) lo hi H Q := .inl ⟨p, xs, rfl, h, k⟩
theorem g_lenL {p : Addr} {xs : List V} (h : SqL K H p xs) (k : Q (.int xs.length) H) : uLen K [.ref p] H Q := ⟨.ref p, xs.length, rfl, .inl ⟨xs, h, rfl⟩, k⟩
theorem g_lenT {p : Addr} {xs : List V} (h : SqT K H p xs) (k : Q (.int xs.length) H) : uLen K [.ref p] H Q := ⟨.ref p, xs.length, rfl, .inr ⟨xs, h, rfl⟩, k⟩
theorem g_lenS {w : Str} (h : w.length ≤ sizeLine) (k : Q (.int w.length) H) : uLen K [.str w] H Q := ⟨.str w, w.length, rfl, ⟨h, rfl⟩, k⟩
theorem g_uInt {m : Int} (k : Q (.int m) H) : uInt [.int m] H Q := .inl (.inl ⟨m, rfl, k⟩)
theorem g_uIntS {a : Str} {n : Int} (h : PySem.intText? a = some n) (c : a.length ≤ 640) (k : Q (.int n) H) : uInt [.str a] H Q := .inr ⟨a, n, rfl, h, c, k⟩
/- branches -/
theorem br {c A B : Prop} [Decidable c] (h1 : c → A) (h2 : ¬ c → B) : if decide c = true then A else B := by
  by_cases h : c
  · rw [if_pos (decide_eq_true h)]; exact h1 h
  · rw [if_neg (by simp [h])]; exact h2 h
theorem brn {c A B : Prop} [Decidable c] (h1 : ¬ c → A) (h2 : c → B) : if (!decide c) = true then A else B := by
  by_cases h : c
  · rw [if_neg (by simp [h])]; exact h2 h
  · rw [if_pos (by simp [h])]; exact h1 h
theorem brB {b : Bool} {A B : Prop} (h1 : b = true → A) (h2 : b = false → B) : if b = true then A else B := by
  cases b
  · rw [if_neg (by simp)]; exact h2 rfl
  · rw [if_pos rfl]; exact h1 rfl
theorem brT {b : Bool} {A B : Prop} (h : b = true) (k : A) : if b = true then A else B := by rw [if_pos h]; exact k
theorem brF {b : Bool} {A B : Prop} (h : b = false) (k : B) : if b = true then A else B := by rw [if_neg (by simp [h])]; exact k
/- a new object; a changed one -/
def Off (a : Addr) (H H' : Hp) : Prop := ∀ b o, b ≠ a → H b = some o → H' b = some o
theorem n_new {o : HO} (c : ∀ p H', H p = none → Same H H' → H' p = some o → Q (.ref p) H') : ∀ p, H p = none → Q (.ref p) (upd H p o) := fun p hp => c p _ hp (fun b u e => by rw [upd_ne (ne_of_none e hp)]; exact e) upd_same
theorem n_size {xs : List V} {A : Prop} (c : xs.length ≤ sizeLine) (k : A) : xs.length ≤ sizeLine ∧ A := ⟨c, k⟩
end
end Eg

set_option Elab.async false
set_option linter.all false
set_option maxRecDepth 100000
set_option maxHeartbeats 4000000
namespace Eg
open PySem PySem.Spec PyProof.Rows L2 Rl SX

/-! loops -/
def gFor (J : It) (g : TG) (tb : TS) (D : Ends) (σ : L2.St) (H : Hp) : Prop := ∃ W : Nat → Nat → L2.St → Hp → Prop, (∃ m, W 0 m σ H) ∧ ∀ i m σ H, W i m σ H →
  (J.stop i H ∧ D.nx σ H) ∨ (J.go i H ∧ ∃ N : L2.St → Hp → Prop, (∀ σ' H', N σ' H' → ∃ m', m' < m ∧ W (i + 1) m' σ' H') ∧ ∀ x H', J.yld i H x H' → g x σ H' fun σ2 H2 => tb { D with nx := N, ct := N, bk := D.nx } σ2 H2)
def gLc (J : It) (g : TG) (tt : TT) (te : TE) (vs : List Nat) (σ : L2.St) (H1 : Hp) (Q : VK) : Prop := ∀ D, H1 D = none → ∃ W : Nat → Nat → Hp → Prop, (∃ m, W 0 m (upd H1 D (.lst []))) ∧ ∀ i m H, W i m H →
  (J.stop i H ∧ Q (.ref D) H) ∨ (J.go i H ∧ ∃ Nx : Hp → Prop, (∀ H', Nx H' → ∃ m', m' < m ∧ W (i + 1) m' H') ∧ ∀ x H', J.yld i H x H' → g x (wipe σ vs) H' fun σ2 H2 => wipe σ2 vs = wipe σ vs ∧ tt σ2 H2 fun b H3 =>
    if b = true then te σ2 H3 fun y H4 => ∃ acc, H4 D = some (.lst acc) ∧ acc.length < sizeLine ∧ Nx (upd H4 D (.lst (acc ++ [y]))) else Nx H3)
section
variable {K : PySem.W.Frag} {σ : L2.St} {H : Hp} {ta tb te tl th : TE} {t u tt : TT} {x y z v : V} {D : Ends} {tu tw tz : TS} {tr : TA} {Q : VK} {E : XK} {r : R2} {i j n : Nat} {g : TG} {wi : TI} {J : It} {vs : List Nat} {R : It → Hp → Prop}
theorem i_for {a b c : L2.St → Hp → Prop} {d : VK} (k : wi σ H fun J H1 => gFor J g tu ⟨a, d, b, c⟩ σ H1) : tFor wi g tu ⟨a, d, b, c⟩ σ H := k
theorem i_lc (k : wi σ H fun J H1 => gLc J g tt te vs σ H1 Q) : tLc wi g tt te vs σ H Q := k
def gIterL (K : PySem.W.Frag) (x : V) (H : Hp) (R : It → Hp → Prop) : Prop := ∃ a, x = .ref a ∧ (∃ xs, SqL K H a xs) ∧ R (Itl K a) H
def gIterT (K : PySem.W.Frag) (x : V) (H : Hp) (R : It → Hp → Prop) : Prop := ∃ a, x = .ref a ∧ (∃ xs, SqT K H a xs) ∧ R (Itt K a) H
def gRng1 (vs : List V) (H : Hp) (R : It → Hp → Prop) : Prop := ∃ j : Int, vs = [.int j] ∧ -(2 ^ 62) ≤ j ∧ j < 2 ^ 62 ∧ R (Itr 0 j.toNat) H
def gRng2 (vs : List V) (H : Hp) (R : It → Hp → Prop) : Prop := ∃ i j : Int, vs = [.int i, .int j] ∧ (-(2 ^ 62) ≤ i ∧ i < 2 ^ 62 ∧ -(2 ^ 62) ≤ j ∧ j < 2 ^ 62) ∧ R (Itr i (j - i).toNat) H
def gEnum (K : PySem.W.Frag) (vs : List V) (H : Hp) (R : It → Hp → Prop) : Prop := ∃ a xs, vs = [.ref a] ∧ SqL K H a xs ∧ R (Ite K a) H
def gEnumS (vs : List V) (H : Hp) (R : It → Hp → Prop) : Prop := ∃ x, vs = [.str x] ∧ R (ItS x) H
def gIterS (x : V) (H : Hp) (R : It → Hp → Prop) : Prop := ∃ z, x = .str z ∧ R (Its z) H
theorem i_iL (k : te σ H fun x H1 => gIterL K x H1 R) : iList K te σ H R := k
theorem i_iT (k : te σ H fun x H1 => gIterT K x H1 R) : iTup K te σ H R := k
theorem i_r1 (k : tr σ H fun vs H1 => gRng1 vs H1 R) : iRng1 tr σ H R := k
theorem i_r2 (k : tr σ H fun vs H1 => gRng2 vs H1 R) : iRng2 tr σ H R := k
theorem i_en (k : tr σ H fun vs H1 => gEnum K vs H1 R) : iEnum K tr σ H R := k
theorem i_eS (k : tr σ H fun vs H1 => gEnumS vs H1 R) : iEnumS tr σ H R := k
theorem i_iS (k : te σ H fun x H1 => gIterS x H1 R) : iStr te σ H R := k
theorem g_iL {a : Addr} {xs : List V} (h : SqL K H a xs) (k : R (Itl K a) H) : gIterL K (.ref a) H R := ⟨a, rfl, ⟨xs, h⟩, k⟩
theorem g_iT {a : Addr} {xs : List V} (h : SqT K H a xs) (k : R (Itt K a) H) : gIterT K (.ref a) H R := ⟨a, rfl, ⟨xs, h⟩, k⟩
theorem g_r1 {m : Int} (c : -(2 ^ 62) ≤ m ∧ m < 2 ^ 62) (k : R (Itr 0 m.toNat) H) : gRng1 [.int m] H R := ⟨m, rfl, c.1, c.2, k⟩
theorem g_r2 {m l : Int} (c : -(2 ^ 62) ≤ l ∧ l < 2 ^ 62 ∧ -(2 ^ 62) ≤ m ∧ m < 2 ^ 62) (k : R (Itr l (m - l).toNat) H) : gRng2 [.int l, .int m] H R := ⟨l, m, rfl, c, k⟩
theorem g_en {a : Addr} {xs : List V} (h : SqL K H a xs) (k : R (Ite K a) H) : gEnum K [.ref a] H R := ⟨a, xs, rfl, h, k⟩
theorem g_eS {w : Str} (k : R (ItS w) H) : gEnumS [.str w] H R := ⟨w, rfl, k⟩
theorem g_iS {w : Str} (k : R (Its w) H) : gIterS (.str w) H R := ⟨w, rfl, k⟩
theorem walk_enumS {w : Str} : Walk (ItS w) w.cps.size (fun _ => True) (YPair (fun i => some (.int (i : Nat))) (fun i => (w.cps[i]?).map fun c => .str ⟨#[c]⟩)) :=
  ⟨fun _ _ hi _ => hi, fun _ _ => Nat.le_refl _, fun i H v H' _ _ y => by
    obtain ⟨T, c, h1, h2, h3, h4⟩ := y
    exact ⟨T, .int (i : Nat), .str ⟨#[c]⟩, h1, h2, h3, rfl, by show Option.map _ (w.cps[i]?) = _; rw [h4]; rfl⟩⟩
/-- a for over anything that walks -/
theorem f_it {G : Hp → Prop} {Y : Nat → Hp → V → Hp → Prop} {a b c : L2.St → Hp → Prop} {d : VK} (w : Walk J n G Y) (Pv : Nat → L2.St → Hp → Prop) (h0 : Pv 0 σ H) (hG : ∀ i σ H, i ≤ n → Pv i σ H → G H)
    (hs : ∀ i x σ H H', i < n → Pv i σ H → Y i H x H' → g x σ H' fun σ2 H2 => tu ⟨Pv (i + 1), d, a, Pv (i + 1)⟩ σ2 H2) (hd : ∀ σ H, Pv n σ H → a σ H) : gFor J g tu ⟨a, d, b, c⟩ σ H := for_it w Pv h0 hG hs hd
/-- a for over range -/
theorem f_rng {lo : Int} {a b c : L2.St → Hp → Prop} {d : VK} (Pv : Nat → L2.St → Hp → Prop) (h0 : Pv 0 σ H)
    (hs : ∀ i σ H, i < n → Pv i σ H → g (.int (lo + i)) σ H fun σ2 H2 => tu ⟨Pv (i + 1), d, a, Pv (i + 1)⟩ σ2 H2) (hd : ∀ σ H, Pv n σ H → a σ H) : gFor (Itr lo n) g tu ⟨a, d, b, c⟩ σ H :=
  f_it walk_range Pv h0 (fun _ _ _ _ _ => trivial) (fun i x σ H H' hi p y => by obtain ⟨e, e2⟩ := y; subst e e2; exact hs i σ _ hi p) hd
/-- a for over a list that stands still -/
theorem f_lst {l : Addr} {xs : List V} {a b c : L2.St → Hp → Prop} {d : VK} (Pv : Nat → L2.St → Hp → Prop) (h0 : Pv 0 σ H) (hl : ∀ i σ H, i ≤ xs.length → Pv i σ H → SqL K H l xs)
    (hs : ∀ i x σ H, xs[i]? = some x → Pv i σ H → g x σ H fun σ2 H2 => tu ⟨Pv (i + 1), d, a, Pv (i + 1)⟩ σ2 H2) (hd : ∀ σ H, Pv xs.length σ H → a σ H) : gFor (Itl K l) g tu ⟨a, d, b, c⟩ σ H :=
  f_it walk_list Pv h0 hl (fun i x σ H H' hi p y => by obtain ⟨e, e2⟩ := y; subst e; exact hs i x σ _ e2 p) hd
theorem f_tup {l : Addr} {xs : List V} {a b c : L2.St → Hp → Prop} {d : VK} (Pv : Nat → L2.St → Hp → Prop) (h0 : Pv 0 σ H) (hl : ∀ i σ H, i ≤ xs.length → Pv i σ H → SqT K H l xs)
    (hs : ∀ i x σ H, xs[i]? = some x → Pv i σ H → g x σ H fun σ2 H2 => tu ⟨Pv (i + 1), d, a, Pv (i + 1)⟩ σ2 H2) (hd : ∀ σ H, Pv xs.length σ H → a σ H) : gFor (Itt K l) g tu ⟨a, d, b, c⟩ σ H :=
  f_it walk_tup Pv h0 hl (fun i x σ H H' hi p y => by obtain ⟨e, e2⟩ := y; subst e; exact hs i x σ _ e2 p) hd
theorem f_str {w : Str} {a b c : L2.St → Hp → Prop} {d : VK} (Pv : Nat → L2.St → Hp → Prop) (h0 : Pv 0 σ H)
    (hs : ∀ i c σ H, w.cps.toList[i]? = some c → Pv i σ H → g (.str (S [c])) σ H fun σ2 H2 => tu ⟨Pv (i + 1), d, a, Pv (i + 1)⟩ σ2 H2) (hd : ∀ σ H, Pv w.cps.toList.length σ H → a σ H) : gFor (Its w) g tu ⟨a, d, b, c⟩ σ H :=
  f_it walk_str Pv h0 (fun _ _ _ _ _ => trivial) (fun i x σ H H' hi p y => by obtain ⟨e, c, e2, e3⟩ := y; subst e e3; exact hs i c σ _ (by simpa using e2) p) hd
theorem f_enumS {w : Str} {a b c : L2.St → Hp → Prop} {d : VK} (Pv : Nat → L2.St → Hp → Prop) (h0 : Pv 0 σ H)
    (hs : ∀ i c σ H T H', w.cps.toList[i]? = some c → Pv i σ H → H T = none → Same H H' → H' T = some (.tup [.int (i : Nat), .str (S [c])]) → g (.ref T) σ H' fun σ2 H2 => tu ⟨Pv (i + 1), d, a, Pv (i + 1)⟩ σ2 H2) (hd : ∀ σ H, Pv w.cps.toList.length σ H → a σ H) : gFor (ItS w) g tu ⟨a, d, b, c⟩ σ H :=
  f_it walk_enumS Pv h0 (fun _ _ _ _ _ => trivial) (fun i x σ H H' hi p y => by
    obtain ⟨T, x1, y1, e1, e2, e3, e4, e5⟩ := y
    subst e1 e3
    cases e4
    replace e5 : Option.map _ (w.cps[i]?) = _ := e5
    cases ec : w.cps[i]? with
    | none => rw [ec] at e5; cases e5
    | some c =>
      rw [ec] at e5
      cases e5
      exact hs i c σ H T _ (by simpa using ec) p e2 (fun b u e => by rw [upd_ne (ne_of_none e e2)]; exact e) upd_same) hd
theorem f_enum {l : Addr} {xs : List V} {a b c : L2.St → Hp → Prop} {d : VK} (Pv : Nat → L2.St → Hp → Prop) (h0 : Pv 0 σ H) (hl : ∀ i σ H, i ≤ xs.length → Pv i σ H → SqL K H l xs)
    (hs : ∀ i x σ H T H', xs[i]? = some x → Pv i σ H → H T = none → Same H H' → H' T = some (.tup [.int (i : Nat), x]) → g (.ref T) σ H' fun σ2 H2 => tu ⟨Pv (i + 1), d, a, Pv (i + 1)⟩ σ2 H2) (hd : ∀ σ H, Pv xs.length σ H → a σ H) : gFor (Ite K l) g tu ⟨a, d, b, c⟩ σ H :=
  f_it walk_enum Pv h0 hl (fun i x σ H H' hi p y => by
    obtain ⟨T, x1, y1, e1, e2, e3, e4, e5⟩ := y
    subst e1 e3
    cases e4
    exact hs i y1 σ H T _ e5 p e2 (fun b u e => by rw [upd_ne (ne_of_none e e2)]; exact e) upd_same) hd
/-- a comprehension over anything that walks; Pv: the new list's address, the turn, what it holds -/
def gItem (Pv : Addr → Nat → List V → Hp → Prop) (D : Addr) (i : Nat) (y : V) (H4 : Hp) : Prop := ∃ acc, H4 D = some (.lst acc) ∧ acc.length < sizeLine ∧ (∃ acc', (upd H4 D (.lst (acc ++ [y]))) D = some (.lst acc') ∧ acc'.length = i + 1 ∧ Pv D (i + 1) acc' (upd H4 D (.lst (acc ++ [y]))))
theorem g_item {Pv : Addr → Nat → List V → Hp → Prop} {D : Addr} {i : Nat} {acc : List V} (h : H D = some (.lst acc)) (l : acc.length = i) (c : i < sizeLine) (k : Pv D (i + 1) (acc ++ [y]) (upd H D (.lst (acc ++ [y])))) : gItem Pv D i y H :=
  ⟨acc, h, by omega, acc ++ [y], upd_same, by simp [l], k⟩
theorem l_it {G : Hp → Prop} {Y : Nat → Hp → V → Hp → Prop} (w : Walk J n G Y) (Pv : Addr → Nat → List V → Hp → Prop) (h0 : ∀ D, H D = none → Pv D 0 [] (upd H D (.lst []))) (hG : ∀ D i acc H', H D = none → i ≤ n → H' D = some (.lst acc) → Pv D i acc H' → G H')
    (hs : ∀ D i x acc H1 H', H D = none → i < n → H1 D = some (.lst acc) → acc.length = i → Pv D i acc H1 → Y i H1 x H' → g x (wipe σ vs) H' fun σ2 H2 => wipe σ2 vs = wipe σ vs ∧ te σ2 H2 (gItem Pv D i))
    (hd : ∀ D acc H', H D = none → H' D = some (.lst acc) → acc.length = n → Pv D n acc H' → Q (.ref D) H') : gLc J g tYes te vs σ H Q := fun D hD =>
  lc_it w (fun i H' => ∃ acc, H' D = some (.lst acc) ∧ acc.length = i ∧ Pv D i acc H') ⟨[], upd_same, rfl, h0 D hD⟩ (fun i H' hi ⟨acc, e, _, p⟩ => hG D i acc H' hD hi e p)
    (fun i x H1 H' hi ⟨acc, e, l, p⟩ y => hs D i x acc H1 H' hD hi e l p y) (fun H' ⟨acc, e, l, p⟩ => hd D acc H' hD e l p)
end
end Eg

set_option Elab.async false
set_option linter.all false
set_option maxRecDepth 100000
set_option maxHeartbeats 4000000
namespace Eg
open PySem PySem.Spec PyProof.Rows L2 Rl SX

theorem Same.put {H H' : Hp} {p : Addr} {o : HO} (e : Same H H') (h : H p = none) : Same H (upd H' p o) := fun b u q => by
  rw [upd_ne (ne_of_none q h)]
  exact e b u q
theorem off_refl (a : Addr) (H : Hp) : Off a H H := fun _ _ _ e => e
theorem Off.upd {a : Addr} {H H' : Hp} {o : HO} (e : Off a H H') : Off a H (upd H' a o) := fun b u hb q => by
  rw [upd_ne hb]
  exact e b u hb q
theorem Off.same {a : Addr} {H H1 H' : Hp} (e : Off a H H1) (s : Same H1 H') : Off a H H' := fun b u hb q => s b u (e b u hb q)
theorem Off.trans {a : Addr} {H H1 H' : Hp} (e : Off a H H1) (s : Off a H1 H') : Off a H H' := fun b u hb q => s b u hb (e b u hb q)
theorem Same.off {a : Addr} {H H1 H' : Hp} (s : Same H H1) (e : Off a H1 H') : Off a H H' := fun b u hb q => e b u hb (s b u q)
theorem off_of {a : Addr} {H H' : Hp} (s : Same H H') : Off a H H' := fun b u _ q => s b u q
/-- a change at what was not there is none -/
theorem Off.new {a : Addr} {H H' : Hp} (e : Off a H H') (h : H a = none) : Same H H' := fun b u q => e b u (ne_of_none q h) q

section
variable {X : Cx}
def uSplit : V → List V → Hp → VK → Prop := fun x xs H Q => ∃ a b, x = .str a ∧ xs = [.str b] ∧ (b.length == 0) = false ∧ a.length + 2 ≤ sizeLine ∧ rNewStrs (Txt.split a b) H Q
theorem mt_uSplit : MtR X "str.split" uSplit := mt_split
def uSplitM : V → List V → Hp → VK → Prop := fun x xs H Q => ∃ (a b : Str) (k : Int), x = .str a ∧ xs = [.str b, .int k] ∧ (b.length == 0) = false ∧ -(2 ^ 63) ≤ k ∧ k < 2 ^ 63 ∧ a.length + 2 ≤ sizeLine ∧ rNewStrs (Txt.splitMax a b k) H Q
theorem mt_uSplitM : MtR X "str.split" uSplitM := mt_splitMax
def uJoin (K : PySem.W.Frag) : V → List V → Hp → VK → Prop := fun x xs H Q => ∃ a p, ∃ ys : List Str, x = .str a ∧ xs = [.ref p] ∧ (SqL K H p (ys.map V.str) ∨ SqT K H p (ys.map V.str)) ∧ (ys.map (·.length)).sum + ys.length * a.length ≤ 16777216 ∧ Q (.str (Txt.join a ys)) H
theorem mt_uJoin : MtR X "str.join" (uJoin X.K) := mt_join
def uCount : V → List V → Hp → VK → Prop := fun x xs H Q => ∃ a b, x = .str a ∧ xs = [.str b] ∧ Q (.int (Txt.count a b)) H
theorem mt_uCount : MtR X "str.count" uCount := mt_count
def uOrd : List V → Hp → VK → Prop := fun xs H Q => ∃ x, xs = [.str x] ∧ x.length = 1 ∧ Q (.int (x.cps.getD 0 0 : Nat)) H
theorem call_uOrd : CallR X (.builtin "ord") uOrd := call_ord
def uAbs : List V → Hp → VK → Prop := fun xs H Q => ∃ i, xs = [.int i] ∧ Q (.int (if i < 0 then -i else i)) H
theorem call_uAbs : CallR X (.builtin "abs") uAbs := call_abs
def uMax2 : List V → Hp → VK → Prop := fun xs H Q => ∃ i j, xs = [.int i, .int j] ∧ Q (.int (if j > i then j else i)) H
theorem call_uMax2 (hc : X.calm = true) : CallR X (.builtin "max") uMax2 := call_max2 hc
def uMin2 : List V → Hp → VK → Prop := fun xs H Q => ∃ i j, xs = [.int i, .int j] ∧ Q (.int (if j < i then j else i)) H
theorem call_uMin2 (hc : X.calm = true) : CallR X (.builtin "min") uMin2 := call_min2 hc
def uStr : List V → Hp → VK → Prop := fun xs H Q => ∃ i : Int, xs = [.int i] ∧ i.natAbs.log2 < 1920 ∧ Q (.str (toString i)) H
theorem call_uStr : CallR X (.type "str") uStr := call_str_int
def uList (K : PySem.W.Frag) : List V → Hp → VK → Prop := fun xs H Q => ∃ p ys, xs = [.ref p] ∧ (SqL K H p ys ∨ SqT K H p ys) ∧ ∀ l, H l = none → Q (.ref l) (upd H l (.lst ys))
theorem call_uList : CallR X (.type "list") (uList X.K) := call_list_of
def uIsN : R2 := fun x y H Q => y = .non ∧ Q (.bl (decide (x = .non))) H
theorem op_uIsN : OpR X (compareOp .Is) uIsN := op_isN
def uNotN : R2 := fun x y H Q => y = .non ∧ Q (.bl (!decide (x = .non))) H
theorem op_uNotN : OpR X (compareOp .IsNot) uNotN := op_notN
end

section
variable {K : PySem.W.Frag} {w : World} {σ : L2.St} {H : Hp} {ta tb te tl th td ty tx : TE} {t u tt : TT} {x y z v : V} {D : Ends} {tu tw tz : TS} {tr : TA} {Q : VK} {E : XK} {r : R2} {i j n : Nat} {g : TG} {vs : List V}
/- methods of built-in types -/
def gBm (K : PySem.W.Frag) (T : String) (r : V → List V → Hp → VK → Prop) (t : TA) (x : V) (σ : L2.St) (H : Hp) (Q : VK) : Prop := tyV K T x H ∧ t σ H fun xs H2 => r x xs H2 Q
theorem i_bm {T : String} {r : V → List V → Hp → VK → Prop} (k : te σ H fun x H1 => gBm K T r tr x σ H1 Q) : tBM K T r te tr σ H Q := k
theorem i_bm0 {T : String} {r : V → List V → Hp → VK → Prop} (k : te σ H fun x H1 => gBm K T r tNil x σ H1 Q) : tBM0 K T r te σ H Q := k
theorem g_bmL {p : Addr} {xs : List V} {r : V → List V → Hp → VK → Prop} (h : SqL K H p xs) (k : tr σ H fun xs H2 => r (.ref p) xs H2 Q) : gBm K "list" r tr (.ref p) σ H Q := ⟨.inl ⟨rfl, xs, h⟩, k⟩
theorem g_bmS {w : Str} {r : V → List V → Hp → VK → Prop} (k : tr σ H fun xs H2 => r (.str w) xs H2 Q) : gBm K "str" r tr (.str w) σ H Q := ⟨rfl, k⟩
theorem g_app {l : Addr} {xs : List V} (h : H l = some (.lst xs)) (c : xs.length < sizeLine) (k : Q .non (upd H l (.lst (xs ++ [y])))) : rAppend (.ref l) [y] H Q := ⟨l, xs, y, rfl, rfl, h, c, k⟩
theorem g_split {a b : Str} (c : (b.length == 0) = false) (d : a.length + 2 ≤ sizeLine) (k : ∀ p H', H p = none → Same H H' → H' p = some (.lst ((Txt.split a b).map V.str)) → Q (.ref p) H') : uSplit (.str a) [.str b] H Q :=
  ⟨a, b, rfl, rfl, c, d, n_new k⟩
theorem g_splitM {a b : Str} {m : Int} (c : (b.length == 0) = false) (e : -(2 ^ 63) ≤ m ∧ m < 2 ^ 63) (d : a.length + 2 ≤ sizeLine) (k : ∀ p H', H p = none → Same H H' → H' p = some (.lst ((Txt.splitMax a b m).map V.str)) → Q (.ref p) H') : uSplitM (.str a) [.str b, .int m] H Q :=
  ⟨a, b, m, rfl, rfl, c, e.1, e.2, d, n_new k⟩
theorem g_join {a : Str} {p : Addr} {ys : List Str} (h : SqL K H p (ys.map V.str)) (c : (ys.map (·.length)).sum + ys.length * a.length ≤ 16777216) (k : Q (.str (Txt.join a ys)) H) : uJoin K (.str a) [.ref p] H Q := ⟨a, p, ys, rfl, rfl, .inl h, c, k⟩
theorem g_count {a b : Str} (k : Q (.int (Txt.count a b)) H) : uCount (.str a) [.str b] H Q := ⟨a, b, rfl, rfl, k⟩
/- built-ins -/
theorem g_ord {c : Nat} (k : Q (.int (c : Int)) H) : uOrd [.str (S [c])] H Q := ⟨S [c], rfl, rfl, k⟩
theorem g_abs {m : Int} (k : Q (.int (if m < 0 then -m else m)) H) : uAbs [.int m] H Q := ⟨m, rfl, k⟩
theorem g_max2 {m l : Int} (k : Q (.int (if l > m then l else m)) H) : uMax2 [.int m, .int l] H Q := ⟨m, l, rfl, k⟩
theorem g_min2 {m l : Int} (k : Q (.int (if l < m then l else m)) H) : uMin2 [.int m, .int l] H Q := ⟨m, l, rfl, k⟩
theorem log2_small {m : Int} (c : m.natAbs < 2 ^ 64) : m.natAbs.log2 < 1920 := Nat.lt_of_lt_of_le (PySem.Flt.log2_lt_of (by decide) c) (by decide)
theorem g_str {m : Nat} (c : m < 2 ^ 64) (k : Q (.str (S (TL.numL m))) H) : uStr [.int (m : Int)] H Q := ⟨(m : Int), rfl, log2_small (by simpa using c), by have e := num_S m; show Q (.str (Str.ofString (toString (m : Int)))) H; rw [e]; exact k⟩
theorem g_list {p : Addr} {xs : List V} (h : SqL K H p xs) (k : ∀ p H', H p = none → Same H H' → H' p = some (.lst xs) → Q (.ref p) H') : uList K [.ref p] H Q := ⟨p, xs, rfl, .inl h, n_new k⟩
theorem g_sum {p : Addr} {ns : List Int} (h : SqL K H p (ns.map V.int)) (k : Q (.int ns.sum) H) : rSum K [.ref p] H Q := ⟨p, ns, rfl, h, k⟩
theorem g_any {p : Addr} {bs : List Bool} (h : SqL K H p (bs.map V.bl)) (k : Q (.bl (bs.any id)) H) : rAny K [.ref p] H Q := ⟨p, bs, rfl, h, k⟩
theorem g_all {p : Addr} {bs : List Bool} (h : SqL K H p (bs.map V.bl)) (k : Q (.bl (bs.all id)) H) : rAll K [.ref p] H Q := ⟨p, bs, rfl, h, k⟩
theorem g_isi {T tn : String} {b : Bool} (h : TyX K H x (.type tn)) (e : kitB tn T = some b) (k : Q (.bl b) H) : rIsi K [x, .ty T] H Q := ⟨x, .ty T, .type tn, .type T, b, rfl, .ty T, h, kit_ty e, k⟩
theorem g_isNN (k : Q (.bl true) H) : uIsN .non .non H Q := ⟨rfl, k⟩
theorem g_isNx (h : x ≠ .non) (k : Q (.bl false) H) : uIsN x .non H Q := ⟨rfl, by rw [decide_eq_false h]; exact k⟩
theorem g_noNN (k : Q (.bl false) H) : uNotN .non .non H Q := ⟨rfl, k⟩
theorem g_noNx (h : x ≠ .non) (k : Q (.bl true) H) : uNotN x .non H Q := ⟨rfl, by rw [decide_eq_false h]; exact k⟩
theorem g_kd {p : Addr} {z : Str} (h : KDct K w p z v) (k : Q v H) : rIxD K w (.ref p) (.str z) H Q := ⟨p, z, v, rfl, rfl, h, k⟩
/- dicts -/
def gDGet2 (ty tx : TE) (x : V) (σ : L2.St) (H : Hp) (Q : VK) : Prop := ∃ a, x = .ref a ∧ IsD H a ∧ ty σ H fun y H2 => tx σ H2 fun z H3 => ∃ o, DGet H3 a y o ∧ Q (o.getD z) H3
def gDG (a : Addr) (y z : V) (H : Hp) (Q : VK) : Prop := ∃ o, DGet H a y o ∧ Q (o.getD z) H
theorem i_dget2 (k : td σ H fun x H1 => gDGet2 ty tx x σ H1 Q) : tDGet2 td ty tx σ H Q := k
theorem g_dget2 {a : Addr} {kvs : List (Key × V)} (h : Rd H a (.dK kvs)) (k : ty σ H fun y H2 => tx σ H2 fun z H3 => gDG a y z H3 Q) : gDGet2 ty tx (.ref a) σ H Q := ⟨a, rfl, .inl ⟨kvs, h⟩, k⟩
theorem g_dg {a : Addr} {s : Str} {kvs : List (Key × V)} (h : Rd H a (.dK kvs)) (k : Q ((valV kvs (.inr s)).getD z) H) : gDG a (.str s) z H Q := ⟨_, .inl ⟨kvs, .inr s, h, rfl, rfl⟩, k⟩
def gDGet (a y : V) (H : Hp) (Q : VK) : Prop := ∃ p v, a = .ref p ∧ DGet H p y (some v) ∧ Q v H
theorem i_dget (k : td σ H fun x H1 => ty σ H1 fun y H2 => gDGet x y H2 Q) : tDGet td ty σ H Q := k
theorem g_dget {a : Addr} {s : Str} {kvs : List (Key × V)} (h : Rd H a (.dK kvs)) (e : valV kvs (.inr s) = some v) (k : Q v H) : gDGet (.ref a) (.str s) H Q := ⟨a, v, rfl, .inl ⟨kvs, .inr s, h, rfl, e.symm⟩, k⟩
def gDPut (a y v : V) (H : Hp) (Q : Hp → Prop) : Prop := ∃ p H', a = .ref p ∧ DPut H p y v H' ∧ Q H'
theorem i_dput {a b c : L2.St → Hp → Prop} {d : VK} (k : tx σ H fun v H1 => td σ H1 fun x H2 => ty σ H2 fun y H3 => gDPut x y v H3 (a σ)) : sDPut td ty tx ⟨a, d, b, c⟩ σ H := k
theorem g_dput {a : Addr} {s : Str} {kvs : List (Key × V)} {Q : Hp → Prop} (h : H a = some (.dK kvs)) (c : kvs.length < sizeLine) (k : Q (upd H a (.dK (putK kvs (.inr s) v)))) : gDPut (.ref a) (.str s) v H Q := ⟨a, _, rfl, .inl ⟨kvs, .inr s, h, rfl, c, rfl⟩, k⟩
theorem i_dnew (k : ∀ p H', H p = none → Same H H' → H' p = some (.dK []) → Q (.ref p) H') : tDNewK σ H Q := n_new k
/- a new tuple, a new list -/
def gNewT (xs : List V) (H : Hp) (Q : VK) : Prop := xs.length ≤ sizeLine ∧ ∀ p, H p = none → Q (.ref p) (upd H p (.tup xs))
def gNewL (xs : List V) (H : Hp) (Q : VK) : Prop := xs.length ≤ sizeLine ∧ ∀ p, H p = none → Q (.ref p) (upd H p (.lst xs))
theorem i_tupN (k : tr σ H fun xs H1 => gNewT xs H1 Q) : tTup tr σ H Q := k
theorem i_lstN (k : tr σ H fun xs H1 => gNewL xs H1 Q) : tLst tr σ H Q := k
theorem g_newT {xs : List V} (c : xs.length ≤ sizeLine) (k : ∀ p H', H p = none → Same H H' → H' p = some (.tup xs) → Q (.ref p) H') : gNewT xs H Q := ⟨c, n_new k⟩
theorem g_newL {xs : List V} (c : xs.length ≤ sizeLine) (k : ∀ p H', H p = none → Same H H' → H' p = some (.lst xs) → Q (.ref p) H') : gNewL xs H Q := ⟨c, n_new k⟩
theorem g_slL' {p : Addr} {xs : List V} {lo hi : Option Int} (h : SqL K H p xs) (k : ∀ q H', H q = none → Same H H' → H' q = some (.lst (cutV xs lo hi)) → Q (.ref q) H') : uSl K (.ref p) lo hi H Q := g_slL h (n_new k)
theorem g_addL' {a b : Addr} {xs ys : List V} (ha : H a = some (.lst xs)) (hb : H b = some (.lst ys)) (c : xs.length + ys.length ≤ sizeLine) (k : ∀ p H', H p = none → Same H H' → H' p = some (.lst (xs ++ ys)) → Q (.ref p) H') : uAdd K (.ref a) (.ref b) H Q := g_addL ha hb c (n_new k)
theorem i_chain {r r' : R2} (k : ta σ H fun x H1 => tb σ H1 fun y H2 => r x y H2 fun z H3 => ∃ k, z = .bl k ∧ (if k = true then te σ H3 fun w' H4 => r' y w' H4 Q else Q (.bl false) H3)) : tChain r r' ta tb te σ H Q := k
/- two ways that meet again -/
theorem jnE {b : Bool} (R : V → Hp → Prop) (hR : ∀ x H', R x H' → Q x H') (h : ∀ Q' : VK, (∀ x H', R x H' → Q' x H') → if b = true then ta σ H Q' else tb σ H Q') : if b = true then ta σ H Q else tb σ H Q := h Q hR
theorem jnA {b : Bool} (R : V → Hp → Prop) (hR : ∀ x H', R x H' → Q x H') (h : ∀ Q' : VK, (∀ x H', R x H' → Q' x H') → if b = true then tb σ H Q' else Q' (.bl false) H) : if b = true then tb σ H Q else Q (.bl false) H := h Q hR
theorem jnO {b : Bool} (R : V → Hp → Prop) (hR : ∀ x H', R x H' → Q x H') (h : ∀ Q' : VK, (∀ x H', R x H' → Q' x H') → if b = true then Q' (.bl true) H else tb σ H Q') : if b = true then Q (.bl true) H else tb σ H Q := h Q hR
theorem jnS {b : Bool} {a c d : L2.St → Hp → Prop} {e : VK} (R : L2.St → Hp → Prop) (hR : ∀ σ' H', R σ' H' → a σ' H') (h : ∀ N : L2.St → Hp → Prop, (∀ σ' H', R σ' H' → N σ' H') → if b = true then tu ⟨N, e, c, d⟩ σ H else tw ⟨N, e, c, d⟩ σ H) : if b = true then tu ⟨a, e, c, d⟩ σ H else tw ⟨a, e, c, d⟩ σ H := h a hR
/-- and, or of two tests of which the second may be asked in any case -/
theorem and_j {c : Bool} {d : Bool} {Q : Bool → Hp → Prop} (h : c = true → ∀ Q' : Bool → Hp → Prop, (∀ H', Same H H' → Q' d H') → u σ H Q') (k : ∀ H', Same H H' → Q (c && d) H') : if c = true then u σ H Q else Q false H := by
  cases c
  · rw [if_neg (by simp)]; exact k H (Same.refl H)
  · rw [if_pos rfl]; exact h rfl Q k
theorem or_j {c : Bool} {d : Bool} {Q : Bool → Hp → Prop} (h : c = false → ∀ Q' : Bool → Hp → Prop, (∀ H', Same H H' → Q' d H') → u σ H Q') (k : ∀ H', Same H H' → Q (c || d) H') : if c = true then Q true H else u σ H Q := by
  cases c
  · rw [if_neg (by simp)]; exact h rfl Q k
  · rw [if_pos rfl]; exact k H (Same.refl H)
theorem g_pow {m n : Int} (c : 0 ≤ n ∧ n ≤ 1000000 ∧ m.natAbs < 2 ^ 64) (k : Q (.int (m ^ n.toNat)) H) : rI CPow (fun i j => .int (i ^ j.toNat)) (.int m) (.int n) H Q := ⟨m, n, rfl, rfl, c, k⟩
/- fields, tuples as targets -/
theorem i_sfld {f : Str} {a b c : L2.St → Hp → Prop} {d : VK} (k : te σ H fun y H1 => ta σ H1 fun x H2 => gSfld K f x y H2 (a σ)) : sFld K ta te f ⟨a, d, b, c⟩ σ H := k
theorem g_sfld {f : Str} {a C dx : Addr} {fs fs' : List (Str × V)} {Q : Hp → Prop} (h : H a = some (.ins C dx fs)) (c : Cls K C) (n : NoAttr K C f) (l : fs.length < 1000) (e : putF f y fs = fs') (k : Q (upd H a (.ins C dx fs'))) : gSfld K f (.ref a) y H Q := ⟨a, C, dx, fs, rfl, h, c, n, l, by rw [e]; exact k⟩
theorem i_gtup {p : Addr} {xs : List V} {tg : TGs} {Q : L2.St → Hp → Prop} (h : SqT K H p xs) (e : xs.length = n) (k : tg xs σ H Q) : gTup K n tg (.ref p) σ H Q := ⟨p, xs, rfl, h, e, k⟩
theorem i_gcons {tg : TG} {tgs : TGs} {Q : L2.St → Hp → Prop} (k : tg v σ H fun σ' H' => tgs vs σ' H' Q) : gCons tg tgs (v :: vs) σ H Q := ⟨v, vs, rfl, k⟩
theorem i_gnil {Q : L2.St → Hp → Prop} (k : Q σ H) : gNil [] σ H Q := ⟨rfl, k⟩
theorem i_par {a b c : L2.St → Hp → Prop} {d : VK} (k : tr σ H fun vs H1 => ∃ v w, vs = [v, w] ∧ a ((σ.set i (some v)).set j (some w)) H1) : tPar i j tr ⟨a, d, b, c⟩ σ H := k
theorem g_par {P : V → V → Prop} (k : P x y) : ∃ v w, [x, y] = [v, w] ∧ P v w := ⟨x, y, rfl, k⟩
/-- a field of an instance, its list of fields literal -/
theorem fld_hd {f : Str} {fs : List (Str × V)} : List.lookup f ((f, v) :: fs) = some v := by simp [List.lookup]
theorem fld_tl {f g : Str} {fs : List (Str × V)} {o : Option V} (h : (f == g) = false) (k : fs.lookup f = o) : List.lookup f ((g, y) :: fs) = o := by rw [List.lookup, h]; exact k
/-- a list made from a list that stands, item by item, nothing else touched -/
def PvP (H : Hp) (f : Nat → V) (D : Addr) (i : Nat) (acc : List V) (H' : Hp) : Prop := Same H H' ∧ acc = (List.range i).map f
theorem g_itemP {H1 H0 : Hp} {f : Nat → V} {D : Addr} (e : Same H0 H1) (h : H1 D = some (.lst ((List.range i).map f))) (hD : H0 D = none) (hi : i < sizeLine) (hy : y = f i) : gItem (PvP H0 f) D i y H1 :=
  g_item h (by simp) hi ⟨Eg.Same.put e hD, by rw [List.range_succ, List.map_append, hy]; rfl⟩
theorem l_lstP {l : Addr} {xs : List V} {vs : List Nat} (f : Nat → V) (hx : SqL K H l xs) (hw : ∀ x, wipe ((wipe σ vs).set j (some x)) vs = wipe σ vs)
    (hs : ∀ D i x H', xs[i]? = some x → H D = none → Same H H' → H' D = some (.lst ((List.range i).map f)) → te ((wipe σ vs).set j (some x)) H' (gItem (PvP H f) D i))
    (k : ∀ p H', H p = none → Same H H' → H' p = some (.lst ((List.range xs.length).map f)) → Q (.ref p) H') : gLc (Itl K l) (gName j) tYes te vs σ H Q :=
  l_it walk_list (PvP H f) (fun D hD => ⟨Eg.Same.put (Same.refl H) hD, rfl⟩) (fun D i acc H' hD _ _ p => p.1.seq hx)
    (fun D i x acc H1 H' hD hi e l p y => by obtain ⟨e1, e2⟩ := y; subst e1; obtain ⟨p1, p2⟩ := p; subst p2; exact ⟨hw x, hs D i x _ e2 hD p1 e⟩) (fun D acc H' hD e _ p => k D H' hD p.1 (by rw [e, p.2]))
theorem l_rngP {lo : Int} {vs : List Nat} (f : Nat → V) (hw : ∀ x, wipe ((wipe σ vs).set j (some x)) vs = wipe σ vs)
    (hs : ∀ D i H', i < n → H D = none → Same H H' → H' D = some (.lst ((List.range i).map f)) → te ((wipe σ vs).set j (some (.int (lo + i)))) H' (gItem (PvP H f) D i))
    (k : ∀ p H', H p = none → Same H H' → H' p = some (.lst ((List.range n).map f)) → Q (.ref p) H') : gLc (Itr lo n) (gName j) tYes te vs σ H Q :=
  l_it walk_range (PvP H f) (fun D hD => ⟨Eg.Same.put (Same.refl H) hD, rfl⟩) (fun D i acc H' hD _ _ p => trivial)
    (fun D i x acc H1 H' hD hi e l p y => by obtain ⟨e1, e2⟩ := y; subst e1 e2; obtain ⟨p1, p2⟩ := p; subst p2; exact ⟨hw _, hs D i _ hi hD p1 e⟩) (fun D acc H' hD e _ p => k D H' hD p.1 (by rw [e, p.2]))
theorem l_strP {z : Str} {vs : List Nat} (f : Nat → V) (hw : ∀ x, wipe ((wipe σ vs).set j (some x)) vs = wipe σ vs)
    (hs : ∀ D i c H', z.cps.toList[i]? = some c → H D = none → Same H H' → H' D = some (.lst ((List.range i).map f)) → te ((wipe σ vs).set j (some (.str (S [c])))) H' (gItem (PvP H f) D i))
    (k : ∀ p H', H p = none → Same H H' → H' p = some (.lst ((List.range z.cps.toList.length).map f)) → Q (.ref p) H') : gLc (Its z) (gName j) tYes te vs σ H Q :=
  l_it walk_str (PvP H f) (fun D hD => ⟨Eg.Same.put (Same.refl H) hD, rfl⟩) (fun D i acc H' hD _ _ p => trivial)
    (fun D i x acc H1 H' hD hi e l p y => by obtain ⟨e1, c, e2, e3⟩ := y; subst e1 e3; obtain ⟨p1, p2⟩ := p; subst p2; exact ⟨hw _, hs D i c _ (by simpa using e2) hD p1 e⟩) (fun D acc H' hD e _ p => k D H' hD p.1 (by rw [e, p.2]; simp))
theorem l_enumP {l : Addr} {xs : List V} {vs : List Nat} {j' : Nat} (f : Nat → V) (hx : SqL K H l xs) (hw : ∀ x y, wipe (((wipe σ vs).set j (some x)).set j' (some y)) vs = wipe σ vs)
    (hs : ∀ D i x H', xs[i]? = some x → H D = none → Same H H' → H' D = some (.lst ((List.range i).map f)) → te (((wipe σ vs).set j (some (.int (i : Nat)))).set j' (some x)) H' (gItem (PvP H f) D i))
    (k : ∀ p H', H p = none → Same H H' → H' p = some (.lst ((List.range xs.length).map f)) → Q (.ref p) H') : gLc (Ite K l) (gTup K 2 (gCons (gName j) (gCons (gName j') gNil))) tYes te vs σ H Q :=
  l_it walk_enum (PvP H f) (fun D hD => ⟨Eg.Same.put (Same.refl H) hD, rfl⟩) (fun D i acc H' hD _ _ p => p.1.seq hx)
    (fun D i x acc H1 H' hD hi e l p y => by
      obtain ⟨T, x1, y1, e1, e2, e3, e4, e5⟩ := y
      subst e1 e3
      cases e4
      obtain ⟨p1, p2⟩ := p
      subst p2
      have hT : Same H1 (upd H1 T (.tup [.int (i : Nat), y1])) := fun b u q => by rw [upd_ne (ne_of_none q e2)]; exact q
      exact ⟨T, _, rfl, .of upd_same, rfl, _, _, rfl, _, _, rfl, rfl, hw _ _, hs D i y1 _ e5 hD (p1.trans hT) (hT _ _ e)⟩) (fun D acc H' hD e _ p => k D H' hD p.1 (by rw [e, p.2]))
end
/-! the same rules, the written part named: within a comprehension -/
section
variable {X : Cx} {K : PySem.W.Frag} {a b e o : Expr} {es : List Expr} {ta tb te to : TE} {t : TA} {pos apos cpos : Pos} {f name : Str} {T id : String} {r : V → List V → Hp → VK → Prop}
theorem op_uAddK (h : X.K = K) : OpR X (binaryOp .Add) (uAdd K) := by subst h; exact op_uAdd
theorem op_uEqK (h : X.K = K) (hu : X.A.units + 64 < cLine) : OpR X (compareOp .Eq) (uEq K) := by subst h; exact op_uEq hu
theorem op_uNeK (h : X.K = K) (hu : X.A.units + 64 < cLine) : OpR X (compareOp .NotEq) (uNe K) := by subst h; exact op_uNe hu
theorem op_uInK (h : X.K = K) : OpR X (compareOp .In) (uIn K) := by subst h; exact op_uIn
theorem op_uNotInK (h : X.K = K) : OpR X (compareOp .NotIn) (uNotIn K) := by subst h; exact op_uNotIn
theorem call_uLenK (h : X.K = K) : CallR X (.builtin "len") (uLen K) := by subst h; exact call_uLen
theorem call_uListK (h : X.K = K) : CallR X (.type "list") (uList K) := by subst h; exact call_uList
theorem cr_sumK (h : X.K = K) (hc : X.calm = true) : CallR X (.builtin "sum") (rSum K) := by subst h; exact cr_sum hc
theorem sl_uK (h : X.K = K) : SlR X (uSl K) := by subst h; exact sl_u
theorem ix_seqK (h : X.K = K) : IxR X (rIx K) := by subst h; exact ix_seq
theorem pe_fldK (h : X.K = K) (he : PE X e ta) (hb : attributeBase e f X.env (eval e X.env) = eval e X.env) : PE X (.Attribute e f pos) (tFld K ta f) := by subst h; exact pe_fld he hb
theorem pe_bmK (h : X.K = K) (pa : PlainAttrs T) (slot : Slot T name id) (hty : typeOf (.builtin id) = pure (.type "method_descriptor")) (hm : MtR X id r) (ho : PE X o to) (ha : PA X (e :: es) t)
    (hst : starEach (e :: es) X.env = (false, eval e X.env) :: starEach es X.env := by rfl) : True := trivial
theorem pt_uK (h : X.K = K) (ha : PE X o ta) (he : ∀ whole, isTrue o X.env whole = (do let v ← whole; standAt o.pos; holding [v] (truthy v)) := by intro _; rfl) : PT X o (uTru K ta) := by subst h; exact pt_u ha he
end
/-- a written text, by its codes -/
theorem pe_s {X : Cx} {x : Str} {j : Nat} {pos : Pos} (l : List Nat) (e : x = S l) : PE X (.Constant (.str x) j pos) (tC (.str (S l))) := by
  subst e
  exact pe_str
theorem at_ofN {α : Type} {xs : List α} {z : Int} {j : Nat} {v : α} (e : z = (j : Int)) (h : xs[j]? = some v) : atI xs z = some v := by
  subst e
  exact atI_nat h
/-! the built-ins' names -/
theorem bt_len : bootBuiltins "len" = some (.builtin "len") := by decide +kernel
theorem bt_abs : bootBuiltins "abs" = some (.builtin "abs") := by decide +kernel
theorem bt_ord : bootBuiltins "ord" = some (.builtin "ord") := by decide +kernel
theorem bt_chr : bootBuiltins "chr" = some (.builtin "chr") := by decide +kernel
theorem bt_isinstance : bootBuiltins "isinstance" = some (.builtin "isinstance") := by decide +kernel
theorem bt_max : bootBuiltins "max" = some (.builtin "max") := by decide +kernel
theorem bt_min : bootBuiltins "min" = some (.builtin "min") := by decide +kernel
theorem bt_sum : bootBuiltins "sum" = some (.builtin "sum") := by decide +kernel
theorem bt_any : bootBuiltins "any" = some (.builtin "any") := by decide +kernel
theorem bt_all : bootBuiltins "all" = some (.builtin "all") := by decide +kernel
theorem bt_sorted : bootBuiltins "sorted" = some (.builtin "sorted") := by decide +kernel
theorem bt_int : bootBuiltins "int" = some (.type "int") := by decide +kernel
theorem bt_str : bootBuiltins "str" = some (.type "str") := by decide +kernel
theorem bt_list : bootBuiltins "list" = some (.type "list") := by decide +kernel
theorem bt_tuple : bootBuiltins "tuple" = some (.type "tuple") := by decide +kernel
theorem bt_bool : bootBuiltins "bool" = some (.type "bool") := by decide +kernel
theorem bt_dict : bootBuiltins "dict" = some (.type "dict") := by decide +kernel
/-! kinds -/
theorem kb_non (T : String) (h : (T == "bool" || T == "int" || T == "str" || T == "list" || T == "tuple") = true) : kitB "NoneType" T = some false := by
  simp only [Bool.or_eq_true, beq_iff_eq] at h
  rcases h with (((h | h) | h) | h) | h <;> subst h <;> decide +kernel
theorem kb_bool (T : String) (h : (T == "str" || T == "list" || T == "tuple") = true) : kitB "bool" T = some false := by
  simp only [Bool.or_eq_true, beq_iff_eq] at h
  rcases h with (h | h) | h <;> subst h <;> decide +kernel
theorem kb_int (T : String) (h : (T == "bool" || T == "str" || T == "list" || T == "tuple") = true) : kitB "int" T = some false := by
  simp only [Bool.or_eq_true, beq_iff_eq] at h
  rcases h with ((h | h) | h) | h <;> subst h <;> decide +kernel
theorem kb_str (T : String) (h : (T == "bool" || T == "int" || T == "list" || T == "tuple") = true) : kitB "str" T = some false := by
  simp only [Bool.or_eq_true, beq_iff_eq] at h
  rcases h with ((h | h) | h) | h <;> subst h <;> decide +kernel
theorem kb_list (T : String) (h : (T == "bool" || T == "int" || T == "str" || T == "tuple") = true) : kitB "list" T = some false := by
  simp only [Bool.or_eq_true, beq_iff_eq] at h
  rcases h with ((h | h) | h) | h <;> subst h <;> decide +kernel
theorem kb_tuple (T : String) (h : (T == "bool" || T == "int" || T == "str" || T == "list") = true) : kitB "tuple" T = some false := by
  simp only [Bool.or_eq_true, beq_iff_eq] at h
  rcases h with ((h | h) | h) | h <;> subst h <;> decide +kernel
theorem kb_bb : kitB "bool" "bool" = some true := by decide +kernel
theorem kb_ii : kitB "int" "int" = some true := by decide +kernel
theorem kb_ss : kitB "str" "str" = some true := by decide +kernel
theorem kb_ll : kitB "list" "list" = some true := by decide +kernel
theorem kb_tt : kitB "tuple" "tuple" = some true := by decide +kernel
end Eg

set_option Elab.async false
set_option linter.all false
set_option maxRecDepth 100000
set_option maxHeartbeats 4000000
/-! all stands but at these places -/
namespace Eg
open PySem PySem.Spec PyProof.Rows L2 Rl
def Nn (b : Addr) (l : List Addr) : Prop := ∀ a ∈ l, b ≠ a
theorem nn_nil {b : Addr} : Nn b [] := fun _ h => nomatch h
theorem nn_cons {a b : Addr} {l : List Addr} (h : b ≠ a) (k : Nn b l) : Nn b (a :: l) := fun c hc => by
  rcases List.mem_cons.mp hc with e | e
  · rw [e]; exact h
  · exact k c e
def Offs (l : List Addr) (H H' : Hp) : Prop := ∀ b u, Nn b l → H b = some u → H' b = some u
theorem Offs.refl (l : List Addr) (H : Hp) : Offs l H H := fun _ _ _ q => q
theorem Offs.same {l : List Addr} {H H1 H2 : Hp} (h : Offs l H H1) (e : Same H1 H2) : Offs l H H2 := fun b u n q => e b u (h b u n q)
theorem Same.offs {l : List Addr} {H H1 : Hp} (e : Same H H1) : Offs l H H1 := fun b u _ q => e b u q
theorem Offs.trans {l : List Addr} {H H1 H2 : Hp} (h : Offs l H H1) (k : Offs l H1 H2) : Offs l H H2 := fun b u n q => k b u n (h b u n q)
theorem Offs.put {l : List Addr} {H H1 : Hp} {a : Addr} {v : HO} (h : Offs l H H1) (m : a ∈ l) : Offs l H (upd H1 a v) := fun b u n q => by rw [upd_ne (n a m)]; exact h b u n q
theorem Offs.putN {l : List Addr} {H H1 : Hp} {a : Addr} {v : HO} (h : Offs l H H1) (m : H a = none) : Offs l H (upd H1 a v) := fun b u n q => by rw [upd_ne (ne_of_none q m)]; exact h b u n q
theorem Offs.off {l : List Addr} {H H1 H2 : Hp} {a : Addr} (h : Offs l H H1) (m : a ∈ l) (k : Off a H1 H2) : Offs l H H2 := fun b u n q => k b u (n a m) (h b u n q)
theorem Offs.offN {l : List Addr} {H H1 H2 : Hp} {a : Addr} (h : Offs l H H1) (m : H a = none) (k : Off a H1 H2) : Offs l H H2 := fun b u n q => k b u (ne_of_none q m) (h b u n q)
/-- the places changed later are known, or were free -/
theorem Offs.more {l l2 : List Addr} {H H1 H2 : Hp} (h : Offs l H H1) (k : Offs l2 H1 H2) (m : ∀ a ∈ l2, a ∈ l ∨ H a = none) : Offs l H H2 := fun b u n q => k b u (fun a ha => (m a ha).elim (n a) fun z => ne_of_none q z) (h b u n q)
theorem Offs.allN {l2 : List Addr} {H H1 H2 : Hp} (h : Same H H1) (k : Offs l2 H1 H2) (m : ∀ a ∈ l2, H a = none) : Same H H2 := fun b u q => k b u (fun a ha => ne_of_none q (m a ha)) (h b u q)
theorem Off.offs {a : Addr} {H H1 : Hp} (h : Off a H H1) : Offs [a] H H1 := fun b u n q => h b u (n a (by simp)) q
theorem Offs.wk {l l2 : List Addr} {H H1 : Hp} (h : Offs l H H1) (m : ∀ a ∈ l, a ∈ l2 ∨ H a = none) : Offs l2 H H1 := Offs.more (Offs.refl _ _) h m
theorem Offs.free {l : List Addr} {H H1 : Hp} {a : Addr} (h : H1 a = none) (k : Offs l H H1) (n : Nn a l) : H a = none := by
  cases e : H a with
  | none => rfl
  | some u => rw [k a u n e] at h; cases h
/-- in a list of places, or free: word by word -/
theorem mf_nil {P : Addr → Prop} : ∀ a ∈ ([] : List Addr), P a := fun _ h => nomatch h
theorem mf_cons {P : Addr → Prop} {b : Addr} {l : List Addr} (h : P b) (k : ∀ a ∈ l, P a) : ∀ a ∈ b :: l, P a := fun c hc => by
  rcases List.mem_cons.mp hc with e | e
  · rw [e]; exact h
  · exact k c e
theorem Offs.tup {l : List Addr} {K : PySem.W.Frag} {H H1 : Hp} {p : Addr} {xs : List V} (h : Offs l H H1) (n : Nn p l) (t : SqT K H p xs) : SqT K H1 p xs := by
  rcases t with (t | ⟨o, t⟩) | t
  · exact .inl (.inl (h _ _ n t))
  · exact .inl (.inr ⟨o, h _ _ n t⟩)
  · exact .inr t
theorem Same.tup {K : PySem.W.Frag} {H H1 : Hp} {p : Addr} {xs : List V} (h : Same H H1) (t : SqT K H p xs) : SqT K H1 p xs := by
  rcases t with (t | ⟨o, t⟩) | t
  · exact .inl (.inl (h _ _ t))
  · exact .inl (.inr ⟨o, h _ _ t⟩)
  · exact .inr t
theorem same_at {H H' : Hp} {b : Addr} {u : HO} (e : Same H H') (h : H b = some u) : H' b = some u := e b u h
theorem off_at {H H' : Hp} {a b : Addr} {u : HO} (e : Off a H H') (n : b ≠ a) (h : H b = some u) : H' b = some u := e b u n h
theorem offs_at {H H' : Hp} {l : List Addr} {b : Addr} {u : HO} (e : Offs l H H') (n : Nn b l) (h : H b = some u) : H' b = some u := e b u n h
theorem upd_none {H : Hp} {a b : Addr} {v : HO} (h : upd H a v b = none) : H b = none := by
  by_cases e : b = a
  · subst e; rw [upd_same] at h; cases h
  · rw [upd_ne e] at h; exact h
theorem off_free {H H1 : Hp} {a b : Addr} {u : HO} (o : Off a H H1) (ha : H1 a = some u) (h : H1 b = none) : H b = none := by
  cases e : H b with
  | none => rfl
  | some v =>
    by_cases n : b = a
    · subst n; rw [ha] at h; cases h
    · rw [o b v n e] at h; cases h
theorem pf_nil {f : Str} {v : V} : putF f v [] = [(f, v)] := rfl
theorem pf_hd {f : Str} {v x : V} {r : List (Str × V)} : putF f v ((f, x) :: r) = (f, v) :: r := by simp [putF]
theorem pf_tl {f g : Str} {v x : V} {r s : List (Str × V)} (h : decide (g = f) = false) (k : putF f v r = s) : putF f v ((g, x) :: r) = (g, x) :: s := by
  have h' := of_decide_eq_false h
  rw [putF, if_neg h', k]
end Eg

set_option Elab.async false
set_option linter.all false
set_option maxRecDepth 100000
set_option maxHeartbeats 4000000
/-! a dict, key by key, held still -/
namespace Eg
open PySem PySem.Spec PyProof.Rows L2 Rl
theorem i_lock {t : TS} {σ : L2.St} {H : Hp} {a b c : L2.St → Hp → Prop} {r : VK} {d : Addr} {u : HO} (h : H d = some u) (m : Mut (some u))
    (k : ∀ od, t ⟨fun σ' H' => H' d = some (.frz od u) ∧ a σ' (upd H' d u), fun v H' => H' d = some (.frz od u) ∧ r v (upd H' d u), fun σ' H' => H' d = some (.frz od u) ∧ b σ' (upd H' d u), fun σ' H' => H' d = some (.frz od u) ∧ c σ' (upd H' d u)⟩ σ (upd H d (.frz od u))) :
    tLock t ⟨a, r, b, c⟩ σ H := ⟨d, u, h, m, k⟩
def gKeys (x : V) (H : Hp) (R : It → Hp → Prop) : Prop := ∃ d o, x = .ref d ∧ ((∃ kvs, H d = some (.frz o (.dK kvs)) ∧ R (Itk d o kvs) H) ∨ ∃ kvs, H d = some (.frz o (.dT kvs)) ∧ R (Itkt d o kvs) H)
theorem i_keys {td : TE} {σ : L2.St} {H : Hp} {R : It → Hp → Prop} (k : td σ H fun x H1 => gKeys x H1 R) : iKeys td σ H R := k
theorem g_keys {H : Hp} {R : It → Hp → Prop} {d : Addr} {o : Obj} {kvs : List (Key × V)} (h : H d = some (.frz o (.dK kvs))) (k : R (Itk d o kvs) H) : gKeys (.ref d) H R := ⟨d, o, rfl, .inl ⟨kvs, h, k⟩⟩
theorem f_keys {g : TG} {tu : TS} {σ : L2.St} {H : Hp} {l : Addr} {o : Obj} {kvs : List (Key × V)} {a b c : L2.St → Hp → Prop} {d : VK} (Pv : Nat → L2.St → Hp → Prop) (h0 : Pv 0 σ H) (hl : ∀ i σ H, i ≤ kvs.length → Pv i σ H → H l = some (.frz o (.dK kvs)))
    (hs : ∀ i k v σ H, kvs[i]? = some (k, v) → Pv i σ H → g (kV k) σ H fun σ2 H2 => tu ⟨Pv (i + 1), d, a, Pv (i + 1)⟩ σ2 H2) (hd : ∀ σ H, Pv kvs.length σ H → a σ H) : gFor (Itk l o kvs) g tu ⟨a, d, b, c⟩ σ H :=
  f_it walk_keys Pv h0 hl (fun i x σ H H' hi p y => by obtain ⟨e, k, v, e2, e3⟩ := y; subst e e3; exact hs i k v σ _ e2 p) hd
def gMake (C : Addr) (sp : Sp) (E : XK) (vs : List V) (H : Hp) (Q : VK) : Prop := ∀ x dx, H x = none → H dx = none → dx ≠ x → sp (.ref x :: vs) (upd (upd H dx (.own x)) x (.ins C dx [])) (fun v H2 => v = .non ∧ Q (.ref x) H2) E
theorem i_mk {C : Addr} {sp : Sp} {E : XK} {tr : TA} {σ : L2.St} {H : Hp} {Q : VK} (k : tr σ H fun vs H1 => gMake C sp E vs H1 Q) : tMake C sp [] E tr σ H Q := i_make k
theorem pg_tupK {X : Cx} {K : PySem.W.Frag} {es : List Expr} {k : Nat} {t : TGs} {n : Nat} {pos : Pos} (h : X.K = K) (hc : X.calm = true) (h2 : PGs X es t)
    (hn : (assignEach es X.env).length = n := by rfl) (hst : (assignEach es X.env).findIdx? (·.1) = none := by rfl) : PG X (.Tuple es k pos) (gTup K n t) := by
  subst h
  exact pg_tup hc h2 hn hst
theorem iteNT {A B : Prop} (k : B) : if (!true) = true then A else B := k
theorem iteNF {A B : Prop} (k : A) : if (!false) = true then A else B := k
theorem upd_swap {H : Hp} {a b : Addr} {x y : HO} (n : a ≠ b) : upd (upd H a x) b y = upd (upd H b y) a x := by
  funext c
  unfold upd
  by_cases h1 : c = a
  · have : ¬ c = b := fun h2 => n (h1.symm.trans h2)
    rw [if_pos h1, if_neg this, if_pos h1]
  · rw [if_neg h1, if_neg h1]
theorem upd_at {H : Hp} {a : Addr} {o : HO} (h : H a = some o) : upd H a o = H := by
  funext c
  unfold upd
  by_cases e : c = a
  · rw [if_pos e, e, h]
  · rw [if_neg e]
/-! the same rules, the ends written out -/
section
variable {σ : L2.St} {H : Hp} {te to ti : TE} {tr : TA} {g : TG} {a b c : L2.St → Hp → Prop} {r : VK} {i : Nat} {x : V}
theorem j_next (k : a σ H) : tNext ⟨a, r, b, c⟩ σ H := k
theorem j_asg (k : te σ H fun x H1 => g x σ H1 a) : tAsg te g ⟨a, r, b, c⟩ σ H := k
theorem j_drop (k : te σ H fun _ H1 => a σ H1) : tDrop te ⟨a, r, b, c⟩ σ H := k
theorem j_ret (k : te σ H r) : tRet te ⟨a, r, b, c⟩ σ H := k
theorem j_retN (k : r .non H) : tRetN ⟨a, r, b, c⟩ σ H := k
theorem j_aug {ti : TIp} (h : σ[i]? = some (some x)) (k : te σ H fun y H1 => ti x y H1 fun z H2 => a (σ.set i (some z)) H2) : tAug i te ti ⟨a, r, b, c⟩ σ H := ⟨x, h, k⟩
theorem j_augS {tget : V → V → Hp → VK → Prop} {tip : TIp} {tset : TSet} (k : to σ H fun o H1 => ti σ H1 fun i H2 => tget o i H2 fun x H3 => te σ H3 fun y H4 => tip x y H4 fun z H5 => tset o i z H5 fun H6 => a σ H6) : tAugS to ti te tget tip tset ⟨a, r, b, c⟩ σ H := k
end
end Eg

set_option Elab.async false
set_option linter.all false
set_option maxRecDepth 100000
set_option maxHeartbeats 4000000
/-! an own exception class whose base is an own one too: the base's name, its first method -/
namespace Eg
open PySem PySem.Spec PyProof.Rows L2 Rl
section
variable {X : Cx} {W : Addr} {x : Str} {mc : Value} {e : Expr} {es : List Expr} {ta : TA} {p1 p2 pos : Pos}
theorem pe_winit {pl : Sem Bool} (hg : Gl X x) (hm : X.mg x = some (.ref W)) (hgw : PySem.W.specialIn X.K (.ref W) "__getattribute__" = some (some (.builtin "type.__getattribute__"))) (hr : PySem.W.readsIn X.K W mc = true) (vV : PySem.W.findCls X.K (.ref W) mc "__init__" = some (.val (.builtin "ValueError.__init__"))) (ha : PA X (e :: es) ta)
    (hdb : (x == ("__debug__" : Str)) = false := by decide)
    (hc : eval (.Call (.Attribute (.Name x p1) "__init__" p2) (e :: es) [] pos) X.env = (do
      let ov ← eval (.Name x p1) X.env
      standAt p2.atName
      let (f, first) ← holding [ov] (getMethod ov "__init__" pl)
      callWith pos f first (backTo pos (starEach (e :: es) X.env)) (backToKw pos (keywordEach [] X.env))) := by rfl)
    (he : starEach (e :: es) X.env = (false, eval e X.env) :: starEach es X.env := by rfl) (hpl : (backTo pos (starEach es X.env)).any (·.1) = false := by rfl) :
    PE X (.Call (.Attribute (.Name x p1) "__init__" p2) (e :: es) [] pos) (tVeI X.K ta) := by
  refine ⟨fun pins s σ H Q I h => ?_⟩
  refine PySem.W.methodCall_KW (ld_glob I hg hm ?_ hdb) hc
  refine PySem.W.method_cls (I.tok _).kIn hgw (PySem.W.cls_value (I.tok _).kIn hr vV (by decide +kernel) ?_)
  show wpAny _ _ (callWith pos (Value.builtin "ValueError.__init__") [] (backTo pos (starEach (e :: es) X.env)) []) _ _ _
  refine PyProof.Rows.callWith_method1 (thn (ha.run pos pins _ σ H _ (I.tok _) h) fun us s1 ⟨vs, H1, I1, r1, a, C, ws, ev, hl, T, ea, q⟩ => ?_) he hpl
  subst ev
  cases r1 with
  | @cons _ u0 _ ur ra rw' =>
    obtain rfl : u0 = Value.ref a := ra
    have hlen : ur.length ≤ sizeLine := by
      rw [← Paired.length rw', sizeLine_eq]
      omega
    exact oinit_ok T I1 ea hlen fun s' J => ⟨.non, H1, J, rfl, q⟩
end
/-! calls that may raise, the way out told slot by slot -/
section
variable {X : Cx} {G : CXT} {k : Nat} {f C : Addr} {fd : FuncData} {ps : List Str} {sp : Sp} {E : L2.St → XK} {x m : Str} {p pos apos : Pos} {o e : Expr} {es : List Expr} {ta : TE} {t : TA}
theorem run_mkS {pins : List (Addr × Obj)} {σ : L2.St} {H : Hp} {s : Shared} {Q : VK} {us : List Value} {vs : List V}
    (M : Mk X.K C f) (F : FnOk X.prog X.w X.K X.mg X.base G k f fd ps sp) (hr : Room (k + 1) X.A) (hb : Binds X.K fd ps [])
    (hx : PassesAt G X σ (E σ)) (I : Inv X pins σ H s) (r : Vals vs us) (h : gMake C sp (E σ) vs H Q) :
    wpAny (model X.prog X.w) X.A (call (.ref C) us) (EP X pins σ Q) X.xe s := by
  have fresh1 := I.hok.fresh (Nat.le_succ s.heap.objs.size)
  have fresh0 := I.hok.fresh (Nat.le_refl s.heap.objs.size)
  have hq := h (s.heap.objs.size + 1) s.heap.objs.size fresh1 fresh0 (Nat.ne_of_lt (Nat.lt_succ_self _))
  have J := Inv.made (C := C) I
  have rr : Vals (V.ref (s.heap.objs.size + 1) :: vs) (Value.ref (s.heap.objs.size + 1) :: us) := .cons rfl r
  have hl : (Value.ref (s.heap.objs.size + 1) :: us).length = ps.length := by
    rw [← rr.length]
    exact F.len _ _ _ _ hq
  have b := hb _ (Value.ref (s.heap.objs.size + 1) :: us) J.kIn (by rw [List.append_nil]; exact hl)
  rw [List.append_nil] at b
  have run := F.run _ X.stack _ _ ⟨Value.ref (s.heap.objs.size + 1) :: us, []⟩ _ _ _ _ (hr.make C us []) (J.env0.make C us []) b rr hq
  refine wpAny_call (make_map (f := f) I.kIn M.makes M.init (beq_iff_eq.mp M.fn) (codeAny_mono run fun z s' w' => ?_))
  rcases z with e | fl
  · exact hx pins _ _ e s' J w'
  · cases fl with
    | ret u =>
      obtain ⟨v, H', I3, rv, ev, q3⟩ := J.after w'
      subst ev
      exact ⟨rv, ⟨V.ref (s.heap.objs.size + 1), H', I3, rfl, q3⟩⟩
    | next => exact w'.elim
    | brk => exact w'.elim
    | cont => exact w'.elim
def tMakeS (C : Addr) (sp : Sp) (E : L2.St → XK) (t : TA) : TE := fun σ H Q => t σ H fun vs H1 => gMake C sp (E σ) vs H1 Q
theorem pe_makeS (M : Mk X.K C f) (F : FnOk X.prog X.w X.K X.mg X.base G k f fd ps sp) (hr : Room (k + 1) X.A) (hg : Gl X x) (hm : X.mg x = some (.ref C)) (hb : Binds X.K fd ps [])
    (hx : ∀ σ, PassesAt G X σ (E σ)) (ha : PA X (e :: es) t) (hdb : (x == ("__debug__" : Str)) = false := by decide)
    (he : starEach (e :: es) X.env = (false, eval e X.env) :: starEach es X.env := by rfl)
    (hpl : (backTo pos (starEach es X.env)).any (·.1) = false := by rfl) : PE X (.Call (.Name x p) (e :: es) [] pos) (tMakeS C sp E t) := by
  constructor
  intro pins s σ H Q I h
  have arg := fun s0 I0 => ha.run pos pins s0 σ H (fun vs H1 => gMake C sp (E σ) vs H1 Q) I0 h
  refine wpAny_Call_Name_kw (ld_glob I hg hm (PySem.W.callWith_K (h₀ := X.base) I.ok.mod.kin M.kp (thn (arg s I) fun us s1 z => ?_) he hpl) hdb)
  obtain ⟨vs, H1, I1, r, q⟩ := z
  exact ⟨I1.kIn, run_mkS M F hr hb (hx σ) I1 r q⟩
end
/-! an own exception class with one field -/
structure Iex (P : Program) (w : World) (K : PySem.W.Frag) (mg : Str → Option Value) (base : Heap) (k : Nat) (x : Str) (C : Addr) (ps : List Str) (sp : Sp) : Prop where
  ex : ∃ (f : Addr) (fd : FuncData), FnOk P w K mg base CX0 k f fd ps sp ∧ PySem.W.findIn K (.ref C) "__init__" = some (some (.ref f)) ∧ PySem.W.typeIn K (.ref f) = some (.type "function") ∧ mg x = some (.ref C) ∧ Binds K fd ps []
  ox : OexC K C
section
variable {X : Cx} {k : Nat} {x : Str} {ps : List Str} {sp : Sp} {p pos pos' : Pos} {e : Expr} {es : List Expr} {t : TA} {C : Addr}
theorem pmk_iex (D : Iex X.prog X.w X.K X.mg X.base k x C ps sp) (hr : Room (k + 1) X.A) (hg : Gl X x) (ha : PA X (e :: es) t) (hdb : (x == ("__debug__" : Str)) = false := by decide)
    (he : starEach (e :: es) X.env = (false, eval e X.env) :: starEach es X.env := by rfl)
    (hpl : (backTo pos (starEach es X.env)).any (·.1) = false := by rfl) : PMk X (.Call (.Name x p) (e :: es) [] pos) (tMkO C sp [] t) := by
  obtain ⟨f, fd, F, iC, tI, hm, hb⟩ := D.ex
  exact pmk_oex D.ox iC tI F hr hb .nil pass0 hg hm ha hdb he hpl
def tRaise (W : WX) (t : L2.St → Hp → XK → Prop) : TS := fun _ σ H => t σ H fun cls d H' => W cls d σ H'
theorem ps_rs {W : WX} {e : Expr} {t : L2.St → Hp → XK → Prop} (tk : Takes X W) (he : PMk X e t) (hc : X.calm = true) : PS X (.Raise (some e) none pos) (tRaise W t) := ps_raise hc tk he
def gRaise (C : Addr) (sp : Sp) (vs : List V) (H : Hp) (Q : XK) : Prop := vs.length ≤ 1000 ∧ ∀ a, H a = none → sp (.ref a :: vs) (upd H a (exo a C none)) (fun v H2 => v = .non ∧ ∃ (d : Addr) (fs : List (Str × V)), H2 a = some (exo a C (some d)) ∧ H2 d = some (exd d fs) ∧ H d = none ∧ Q (.ref C) (some d) (upd (del H2 a) d (.xd fs))) fun _ _ _ => False
theorem i_raise {W : WX} {D : Ends} {σ : L2.St} {H : Hp} (h : t σ H fun vs H1 => gRaise C sp vs H1 fun cls d H' => W cls d σ H') : tRaise W (tMkO C sp [] t) D σ H := by
  unfold tRaise tMkO
  simp only [List.append_nil]
  exact h
def tTryAs (K : PySem.W.Frag) (c : Value) (i : Nat) (tb : WX → TS) (ts : Addr → Value → Option Addr → TS) (Wout : WX) : TS := fun D σ H => tb (wAs K c i ts Wout D) D σ H
theorem i_try {K : PySem.W.Frag} {c : Value} {i : Nat} {tb : WX → TS} {ts : Addr → Value → Option Addr → TS} {Wout : WX} {D : Ends} {σ : L2.St} {H : Hp} (h : tb (wAs K c i ts Wout D) D σ H) : tTryAs K c i tb ts Wout D σ H := h
theorem g_wAs {K : PySem.W.Frag} {cls c : Value} {i : Nat} {ts : Addr → Value → Option Addr → TS} {Wout : WX} {D : Ends} {d : Option Addr} {σ : L2.St} {H : Hp} (e : PySem.W.exmOne K cls c = some true)
    (k : ∀ a, H a = none → ts a cls d { nx := fun σ' H' => D.nx (σ'.set i none) H', rt := D.rt, bk := fun σ' H' => D.bk (σ'.set i none) H', ct := fun σ' H' => D.ct (σ'.set i none) H' } (σ.set i (some (.ref a))) H) : wAs K c i ts Wout D cls d σ H := ⟨true, e, fun _ => k, fun z => Bool.noConfusion z⟩
theorem j_makeS {E : L2.St → XK} {σ : L2.St} {H : Hp} {Q : VK} (h : t σ H fun vs H1 => gMake C sp (E σ) vs H1 Q) : tMakeS C sp E t σ H Q := h
def gXf (a : Addr) (cls : Value) (d : Option Addr) (C : Addr) (f : Str) (x : V) (H1 : Hp) (Q : VK) : Prop := x = .ref a ∧ cls = .ref C ∧ ∃ (dd : Addr) (fs : List (Str × V)) (v : V), d = some dd ∧ H1 dd = some (.xd fs) ∧ fs.lookup f = some v ∧ Q v H1
theorem i_xf {a : Addr} {cls : Value} {d : Option Addr} {f : Str} {te : TE} {σ : L2.St} {H : Hp} {Q : VK} (h : te σ H fun x H1 => gXf a cls d C f x H1 Q) : tXf a cls d C f te σ H Q := h
theorem g_xf {a d : Addr} {f : Str} {v : V} {fs : List (Str × V)} {H : Hp} {Q : VK} (h : H d = some (.xd fs)) (l : fs.lookup f = some v) (k : Q v H) : gXf a (.ref C) (some d) C f (.ref a) H Q := ⟨rfl, rfl, d, fs, v, rfl, h, l, k⟩
end
/-- the promise of an __init__ that calls its base's and sets one field -/
def sp_xi (K : PySem.W.Frag) (C : Addr) (f : Str) : Sp := fun vs H Q _ => ∃ (a : Addr) (v : V), vs = [.ref a, v] ∧ H a = some (exo a C none) ∧ ∀ dx, H dx = none → dx ≠ a → Q .non (upd (upd H dx (exd dx [(f, v)])) a (exo a C (some dx)))
theorem c_raise {K : PySem.W.Frag} {C : Addr} {f : Str} {v : V} {H : Hp} {Q : XK} (k : ∀ d H', H d = none → Same H H' → H' d = some (.xd [(f, v)]) → Q (.ref C) (some d) H') : gRaise C (sp_xi K C f) [v] H Q := by
  refine ⟨by simp, fun a ha => ⟨a, v, rfl, upd_same, fun dx hd hn => ⟨rfl, dx, [(f, v)], upd_same, by rw [upd_ne hn, upd_same], upd_none hd, ?_⟩⟩⟩
  refine k dx _ (upd_none hd) (fun b u q => ?_) upd_same
  have hb := ne_of_none q ha
  have hb2 := ne_of_none q (upd_none hd)
  rw [upd_ne hb2, del_ne hb, upd_ne hb, upd_ne hb2, upd_ne hb]
  exact q
/-! defs that may raise -/
structure DfnX (P : Program) (w : World) (K : PySem.W.Frag) (mg : Str → Option Value) (base : Heap) (k : Nat) (x : Str) (ps : List Str) (sp : Sp) : Prop where
  ex : ∃ (f : Addr) (fd : FuncData), FnOk P w K mg base (L2.CX P w) k f fd ps sp ∧ mg x = some (.ref f) ∧ PySem.W.keepIn K (.ref f) = true ∧ Binds K fd ps []
structure IniX (P : Program) (w : World) (K : PySem.W.Frag) (mg : Str → Option Value) (base : Heap) (k : Nat) (x : Str) (C : Addr) (ps : List Str) (sp : Sp) : Prop where
  ex : ∃ (f : Addr) (fd : FuncData), FnOk P w K mg base (L2.CX P w) k f fd ps sp ∧ Mk K C f ∧ mg x = some (.ref C) ∧ Binds K fd ps []
section
variable {X : Cx} {k : Nat} {x : Str} {ps : List Str} {sp : Sp} {p pos : Pos} {e : Expr} {es : List Expr} {t : TA} {C : Addr} {W : WX}
theorem pe_dfnS (D : DfnX X.prog X.w X.K X.mg X.base k x ps sp) (hr : Room k X.A) (hg : Gl X x) (tk : Takes X W) (ha : PA X (e :: es) t) (hdb : (x == ("__debug__" : Str)) = false := by decide)
    (he : starEach (e :: es) X.env = (false, eval e X.env) :: starEach es X.env := by rfl)
    (hpl : (backTo pos (starEach es X.env)).any (·.1) = false := by rfl) : PE X (.Call (.Name x p) (e :: es) [] pos) (tCallS sp (WE W) t) := by
  obtain ⟨f, fd, F, hm, hk, hb⟩ := D.ex
  exact pe_callS F hr hg hm hk hb (fun σ => passAt tk σ) ha hdb he hpl
theorem pe_iniS (D : IniX X.prog X.w X.K X.mg X.base k x C ps sp) (hr : Room (k + 1) X.A) (hg : Gl X x) (tk : Takes X W) (ha : PA X (e :: es) t) (hdb : (x == ("__debug__" : Str)) = false := by decide)
    (he : starEach (e :: es) X.env = (false, eval e X.env) :: starEach es X.env := by rfl)
    (hpl : (backTo pos (starEach es X.env)).any (·.1) = false := by rfl) : PE X (.Call (.Name x p) (e :: es) [] pos) (tMakeS C sp (WE W) t) := by
  obtain ⟨f, fd, F, M, hm, hb⟩ := D.ex
  exact pe_makeS M F hr hg hm hb (fun σ => passAt tk σ) ha hdb he hpl
end
/-- the base's __init__ called, a field set: what an own exception's __init__ reads -/
def gVe (K : PySem.W.Frag) (vs : List V) (H1 : Hp) (Q : VK) : Prop := ∃ (a C : Addr) (ws : List V), vs = .ref a :: ws ∧ ws.length ≤ 1000 ∧ OexC K C ∧ H1 a = some (exo a C none) ∧ Q .non H1
theorem i_ve {K : PySem.W.Frag} {ta : TA} {σ : L2.St} {H : Hp} {Q : VK} (k : ta σ H fun vs H1 => gVe K vs H1 Q) : tVeI K ta σ H Q := k
theorem g_ve {K : PySem.W.Frag} {a C : Addr} {ws : List V} {H : Hp} {Q : VK} (h : H a = some (exo a C none)) (o : OexC K C) (l : ws.length ≤ 1000) (k : Q .non H) : gVe K (.ref a :: ws) H Q := ⟨a, C, ws, rfl, l, o, h, k⟩
def gOst (K : PySem.W.Frag) (f : Str) (y x : V) (H2 : Hp) (Q : Hp → Prop) : Prop := ∃ a C : Addr, x = .ref a ∧ OexC K C ∧ PySem.W.findIn K (.ref C) f = some none ∧
  ((H2 a = some (exo a C none) ∧ ∀ dx, H2 dx = none → dx ≠ a → Q (upd (upd H2 dx (exd dx [(f, y)])) a (exo a C (some dx)))) ∨
    ∃ (dx : Addr) (fs : List (Str × V)), H2 a = some (exo a C (some dx)) ∧ H2 dx = some (exd dx fs) ∧ fs.length ≤ 900 ∧ Q (upd H2 dx (exd dx ((f, y) :: fs))))
theorem i_ost {K : PySem.W.Frag} {f : Str} {to te : TE} {a b c : L2.St → Hp → Prop} {r : VK} {σ : L2.St} {H : Hp} (k : te σ H fun y H1 => to σ H1 fun x H2 => gOst K f y x H2 (a σ)) : tOst K f to te ⟨a, r, b, c⟩ σ H := k
theorem g_ost {K : PySem.W.Frag} {f : Str} {y : V} {a C : Addr} {H : Hp} {Q : Hp → Prop} (h : H a = some (exo a C none)) (o : OexC K C) (n : PySem.W.findIn K (.ref C) f = some none) (k : ∀ dx, H dx = none → dx ≠ a → Q (upd (upd H dx (exd dx [(f, y)])) a (exo a C (some dx)))) : gOst K f y (.ref a) H Q := ⟨a, C, rfl, o, n, .inl ⟨h, k⟩⟩
theorem i_unl {K : PySem.W.Frag} {n : Nat} {tg : TGs} {p : Addr} {xs : List V} {σ : L2.St} {H : Hp} {Q : L2.St → Hp → Prop} (h : SqL K H p xs) (e : xs.length = n) (k : tg xs σ H Q) : gUnl K n tg (.ref p) σ H Q := ⟨p, xs, rfl, h, e, k⟩
end Eg

set_option Elab.async false
set_option linter.all false
set_option maxRecDepth 100000
set_option maxHeartbeats 4000000
/-! ranges as values, backwards; wide numbers; lists compared -/
namespace Eg
open PySem PySem.Spec PyProof.Rows L2 Rl SX
section
variable {X : Cx}
def uRng : List V → Hp → VK → Prop := fun xs H Q => ∃ n : Int, xs = [.int n] ∧ ∀ p, H p = none → Q (.ref p) (upd H p (.rng 0 n))
theorem call_uRng : CallR X (.type "range") uRng := by
  intro pins s σ H vs us Q I r ⟨n, e, q⟩
  subst e
  cases r with
  | cons r rr =>
    cases rr
    obtain ⟨t, rfl⟩ := r
    refine call_range_1 ⟨.ref s.heap.objs.size, upd H s.heap.objs.size (.rng 0 n), I.laid (t' := s.toks + 1 + 1) (fun _ _ z => Heap.get?_push_of_some _ z) (Nat.le_refl _) ?_, rfl, q _ (I.hok.fresh (Nat.le_refl _))⟩
    exact ⟨s.toks, t, s.toks + 1, Heap.get?_push_size _ rfl⟩
/-- a range object, walked -/
def iRng0 (te : TE) : TI := fun σ H R => te σ H fun x H1 => ∃ (p : Addr) (lo hi : Int), x = .ref p ∧ H1 p = some (.rng lo hi) ∧ (-(2 ^ 62) ≤ lo ∧ lo < 2 ^ 62 ∧ -(2 ^ 62) ≤ hi ∧ hi < 2 ^ 62) ∧ R (Itr lo (hi - lo).toNat) H1
theorem pi_rng {tg e : Expr} {te : TE} (he : PE X e te) : PI X tg e (iRng0 te) := by
  refine ⟨fun pins s σ H R I h => ?_⟩
  refine thn (he.run pins s σ H _ I h) fun v s1 ⟨x, H1, I1, r1, q1⟩ => ?_
  obtain ⟨p, lo, hi, e1, hp, ⟨h1, h2, h3, h4⟩, q⟩ := q1
  subst e1
  cases r1
  obtain ⟨t1, t2, t3, ho⟩ := I1.hok p _ hp
  refine wpAny_pyIter_range (t := t1) (u := t2) (v := t3) ho (small_one h1 h2 h3 h4) ?_
  refine pi_one (tk := s1.toks) I1 { cls := .type "range_iterator", data := .fields #[rawInt lo, rawInt (Builtin.Range.rangeSize lo hi 1), rawInt 1] } (turn_range (P := X.prog) (w := X.w) (K := X.K) (tg := tg) s1.heap.objs.size lo (hi - lo).toNat) ?_ q
  · have a1 : lo + ((0 : Nat) : Int) * 1 = lo := by simp
    have a2 : (((hi - lo).toNat : Nat) : Int) - ((0 : Nat) : Int) = Builtin.Range.rangeSize lo hi 1 := by rw [rangeSize_one]; split <;> omega
    show IsRangeIter _ _ (lo + ((0 : Nat) : Int) * 1) ((((hi - lo).toNat : Nat) : Int) - ((0 : Nat) : Int)) 1
    rw [a1, a2]
    exact Heap.get?_push_size _ rfl
end
section
variable {K : PySem.W.Frag} {σ : L2.St} {H : Hp} {te : TE} {Q : VK} {g : TG} {n : Int} {R : It → Hp → Prop}
theorem g_uRng (k : ∀ p H', H p = none → Same H H' → H' p = some (.rng 0 n) → Q (.ref p) H') : uRng [.int n] H Q := ⟨n, rfl, n_new k⟩
def gRng0 (x : V) (H1 : Hp) (R : It → Hp → Prop) : Prop := ∃ (p : Addr) (lo hi : Int), x = .ref p ∧ H1 p = some (.rng lo hi) ∧ (-(2 ^ 62) ≤ lo ∧ lo < 2 ^ 62 ∧ -(2 ^ 62) ≤ hi ∧ hi < 2 ^ 62) ∧ R (Itr lo (hi - lo).toNat) H1
theorem i_rng0 (k : te σ H fun x H1 => gRng0 x H1 R) : iRng0 te σ H R := k
theorem g_rng0 {p : Addr} {lo hi : Int} (h : H p = some (.rng lo hi)) (c : -(2 ^ 62) ≤ lo ∧ lo < 2 ^ 62 ∧ -(2 ^ 62) ≤ hi ∧ hi < 2 ^ 62) (k : R (Itr lo (hi - lo).toNat) H) : gRng0 (.ref p) H R := ⟨p, lo, hi, rfl, h, c, k⟩
def gRevR (x : V) (H1 : Hp) (R : It → Hp → Prop) : Prop := ∃ n : Int, x = .int n ∧ -(2 ^ 62) ≤ (0 : Int) ∧ (0 : Int) < 2 ^ 62 ∧ -(2 ^ 62) ≤ n ∧ n < 2 ^ 62 ∧ R (Itc (0 + (((n - 0).toNat : Nat) : Int) - 1) (-1) (n - 0).toNat) H1
theorem i_revR (k : te σ H fun x H1 => gRevR x H1 R) : iRevR (tRg1 te) σ H R := k
theorem g_revR {m : Nat} (c : m < 2 ^ 62) (k : R (Itc ((m : Int) - 1) (-1) m) H) : gRevR (.int (m : Int)) H R := by
  refine ⟨m, rfl, by omega, by omega, by omega, by omega, ?_⟩
  rw [Int.sub_zero, Int.toNat_natCast, Int.zero_add]
  exact k
/-- a for over a range from its end -/
theorem f_rngC {m : Nat} {tu : TS} {a b c : L2.St → Hp → Prop} {d : VK} (Pv : Nat → L2.St → Hp → Prop) (h0 : Pv 0 σ H)
    (hs : ∀ i σ H, i < m → Pv i σ H → g (.int ((m - 1 - i : Nat) : Int)) σ H fun σ2 H2 => tu ⟨Pv (i + 1), d, a, Pv (i + 1)⟩ σ2 H2) (hd : ∀ σ H, Pv m σ H → a σ H) : gFor (Itc ((m : Int) - 1) (-1) m) g tu ⟨a, d, b, c⟩ σ H :=
  f_it walk_rangeC Pv h0 (fun _ _ _ _ _ => trivial) (fun i x σ H H' hi p y => by
    obtain ⟨e, e2⟩ := y
    subst e e2
    have z : (m : Int) - 1 + (i : Nat) * (-1) = ((m - 1 - i : Nat) : Int) := by omega
    show g (.int ((m : Int) - 1 + (i : Nat) * (-1))) σ _ _
    rw [z]
    exact hs i σ _ hi p) hd
theorem bt_range : bootBuiltins "range" = some (.type "range") := by decide +kernel
/-- products of wide numbers -/
theorem mul_nb {x y : Int} {m n : Nat} (hx : x.natAbs < 2 ^ m) (hy : y.natAbs < 2 ^ n) (h : m + n < 1000000) : CMulW x y := by
  unfold CMulW
  have z : ∀ {v : Int} {k : Nat}, v.natAbs < 2 ^ k → v.natAbs.log2 ≤ k := fun {v k} hv => by
    by_cases h0 : v.natAbs = 0
    · rw [h0]; simp
    · exact Nat.le_of_lt ((Nat.log2_lt h0).mpr hv)
  have := z hx
  have := z hy
  omega
theorem log_nb {v : Int} {k : Nat} (hv : v.natAbs < 2 ^ k) : v.natAbs.log2 ≤ k := by
  by_cases h0 : v.natAbs = 0
  · rw [h0]; simp
  · exact Nat.le_of_lt ((Nat.log2_lt h0).mpr hv)
theorem g_divW {x y : Int} {k : Nat} (h0 : 0 < y) (hy : y.natAbs < 2 ^ k) (hk : k < 9000) (q : Q (.int (x / y)) H) : uDiv (.int x) (.int y) H Q := ⟨x, y, rfl, rfl, .inr ⟨h0, Nat.lt_of_le_of_lt (log_nb hy) hk⟩, q⟩
theorem g_mulW {x y : Int} (c : CMulW x y) (k : Q (.int (x * y)) H) : uMul (.int x) (.int y) H Q := ⟨x, y, rfl, rfl, .inr c, k⟩
end
end Eg

set_option Elab.async false
set_option linter.all false
set_option maxRecDepth 100000
set_option maxHeartbeats 4000000
/-! two lists walked together -/
namespace Eg
open PySem PySem.Spec PyProof.Rows L2 Rl SX
section
variable {K : PySem.W.Frag} {σ : L2.St} {H : Hp} {tr : TA} {g : TG} {R : It → Hp → Prop} {tu : TS} {a b c : L2.St → Hp → Prop} {d : VK}
def gZip (K : PySem.W.Frag) (vs : List V) (H : Hp) (R : It → Hp → Prop) : Prop := ∃ a b xs ys, vs = [.ref a, .ref b] ∧ SqL K H a xs ∧ SqL K H b ys ∧ R (Itz K a b) H
theorem i_zip (k : tr σ H fun vs H1 => gZip K vs H1 R) : iZip K tr σ H R := k
theorem g_zip {p q : Addr} {xs ys : List V} (h1 : SqL K H p xs) (h2 : SqL K H q ys) (k : R (Itz K p q) H) : gZip K [.ref p, .ref q] H R := ⟨p, q, xs, ys, rfl, h1, h2, k⟩
theorem f_zip {p q : Addr} {xs ys : List V} (hl : xs.length = ys.length) (Pv : Nat → L2.St → Hp → Prop) (h0 : Pv 0 σ H) (hk : ∀ i σ H, i ≤ xs.length → Pv i σ H → SqL K H p xs ∧ SqL K H q ys)
    (hs : ∀ i x y σ H T H', xs[i]? = some x → ys[i]? = some y → Pv i σ H → H T = none → Same H H' → H' T = some (.tup [x, y]) → g (.ref T) σ H' fun σ2 H2 => tu ⟨Pv (i + 1), d, a, Pv (i + 1)⟩ σ2 H2) (hd : ∀ σ H, Pv xs.length σ H → a σ H) : gFor (Itz K p q) g tu ⟨a, d, b, c⟩ σ H :=
  f_it (walk_zip (n := xs.length) (by omega)) Pv h0 hk (fun i v σ H H' hi p y => by
    obtain ⟨T, x, y, e1, e2, e3, e4, e5⟩ := y
    subst e1 e3
    exact hs i x y σ H T _ e4 e5 p e2 (fun b u e => by rw [upd_ne (ne_of_none e e2)]; exact e) upd_same) hd
end
end Eg

set_option Elab.async false
set_option linter.all false
set_option maxRecDepth 100000
set_option maxHeartbeats 4000000
/-! methods that may raise; .get of a dict at the module's top -/
namespace Eg
open PySem PySem.Spec PyProof.Rows L2 Rl SX
structure MthX (P : Program) (w : World) (K : PySem.W.Frag) (mg : Str → Option Value) (base : Heap) (k : Nat) (C : Addr) (x : Str) (ps : List Str) (sp : Sp) : Prop where
  ex : ∃ (f : Addr) (fd : FuncData), FnOk P w K mg base (L2.CX P w) k f fd ps sp ∧ Meth K C x f ∧ Binds K fd ps []
  cl : Cls K C
def tMethS (C : Addr) (m : Str) (sp : Sp) (E : L2.St → XK) (ta : TE) (t : TA) : TE := fun σ H Q => ta σ H fun x H1 => ∃ a dx fs, x = .ref a ∧ H1 a = some (.ins C dx fs) ∧ fs.lookup m = none ∧ t σ H1 fun vs H2 => sp (x :: vs) H2 Q (E σ)
section
variable {X : Cx} {k : Nat} {x : Str} {ps : List Str} {sp : Sp} {p pos apos : Pos} {o e f : Expr} {es : List Expr} {t : TA} {ta td ty tx : TE} {C : Addr} {W : WX} {m : Str}
theorem pe_mthS (D : MthX X.prog X.w X.K X.mg X.base k C m ps sp) (hr : Room k X.A) {pl : Sem Bool} (tk : Takes X W) (ho : PE X o ta) (ha : PA X (e :: es) t)
    (hst : starEach (e :: es) X.env = (false, eval e X.env) :: starEach es X.env := by rfl) (hpl : (backTo pos (starEach es X.env)).any (·.1) = false := by rfl)
    (ht : eval (.Call (.Attribute o m apos) (e :: es) [] pos) X.env = (do
      let ov ← eval o X.env
      standAt apos.atName
      let (f, first) ← holding [ov] (getMethod ov m pl)
      callWith pos f first (backTo pos (starEach (e :: es) X.env)) (backToKw pos (keywordEach [] X.env))) := by rfl) :
    PE X (.Call (.Attribute o m apos) (e :: es) [] pos) (tMethS C m sp (WE W) ta t) := by
  obtain ⟨g, fd, F, hm, hb⟩ := D.ex
  refine ⟨fun pins s σ H Q I h => ?_⟩
  refine PySem.W.methodCall_KW (pl := pl) (thn (ho.run pins s σ H _ I h) fun u s1 ⟨y, H1, I1, ry, a, dx, fs, ey, ea, l, q⟩ => ?_) ht
  subst ey
  cases ry
  refine getmeth_ok I1 ea D.cl hm l ?_
  refine PySem.W.callWith_K (first := [.ref a]) (h₀ := X.base) I.ok.mod.kin hm.kp (thn (ha.run pos pins s1 σ H1 _ I1 q) fun us s2 ⟨vs, H2, I2, r, q2⟩ => ⟨I2.kIn, ?_⟩) hst hpl
  exact run_fnS (us := .ref a :: us) (vs := .ref a :: vs) F hr hb ((fun σ => passAt tk σ) σ) I2 (.cons rfl r) q2
/-- d.get(x, y) of a dict at the module's top that has no such key -/
def tKGet2 (K : PySem.W.Frag) (w : World) (td ty tx : TE) : TE := fun σ H Q => td σ H fun x H1 => ∃ a z, x = .ref a ∧ KMiss K w a z ∧ ty σ H1 fun y H2 => y = .str z ∧ tx σ H2 Q
theorem pe_kget2 (ho : PE X o td) (he : PE X e ty) (hf : PE X f tx) (m : M2 X o "get" apos e f pos) : PE X (.Call (.Attribute o "get" apos) [e, f] [] pos) (tKGet2 X.K X.w td ty tx) := by
  refine ⟨fun pins s σ H Q I h => ?_⟩
  refine wpAny_Call_method m.base m.few m.line PySem.F.plainAttrs_dict PySem.F.slot_dict_get PySem.F.type_dict_get (thn (ho.run pins s σ H _ I h) fun u s1 ⟨x, H1, I1, rx, a, z, ex, miss, q1⟩ => ?_)
  subst ex
  cases rx
  obtain ⟨es, n, hl, hk, low, hn⟩ := miss
  have hm := PySem.W.mapOf_K (prog := X.prog) (w := X.w) I1.kIn hl hk
  refine ⟨hm.typeIs, ?_, ?_⟩
  · intro b e
    cases e
    exact ⟨_, I1.kIn _ _ hl, rfl⟩
  rw [m.trees]
  refine Calls.callWith_builtin rfl (Calls.evalArgs_plain (Calls.spliced_cons (thn (he.run pins s1 σ H1 _ I1 q1) fun iv s2 ⟨y, H2, I2, ry, ey, q2⟩ =>
    Calls.spliced_cons (thn (hf.run pins s2 σ H2 _ I2 q2) fun fv s3 ⟨v, H3, I3, rv, q3⟩ => Calls.spliced_nil ?_))))
  subst ey
  obtain ⟨t, rfl⟩ := ry
  have hm3 := PySem.W.mapOf_K (prog := X.prog) (w := X.w) I3.kIn hl hk
  refine call_meetsIn PySem.F.slot_dict_get hm3.typeIs PySem.F.entry_dict_get (PySem.F.args_dict_get_3 _ _ _) (meets_dict_get_default (strKind X.prog X.w) a (strKind_is X.prog X.w z t) ?_ fv) ?_
  · exact low
  · refine ⟨_, hm3, ?_⟩
    rw [PySem.W.find_K hl hn]
    exact ⟨v, H3, I3.tok _, rv, q3⟩
end
section
variable {K : PySem.W.Frag} {σ : L2.St} {H : Hp} {te ty tx : TE} {tr : TA} {Q : VK} {sp : Sp} {E : L2.St → XK} {C : Addr} {m : Str} {w : World}
theorem i_callS (k : tr σ H fun vs H1 => sp vs H1 Q (E σ)) : tCallS sp E tr σ H Q := k
def gMethS (C : Addr) (m : Str) (sp : Sp) (E : L2.St → XK) (t : TA) (x : V) (σ : L2.St) (H : Hp) (Q : VK) : Prop := ∃ a dx fs, x = .ref a ∧ H a = some (.ins C dx fs) ∧ fs.lookup m = none ∧ t σ H fun vs H2 => sp (x :: vs) H2 Q (E σ)
theorem i_methS (k : te σ H fun x H1 => gMethS C m sp E tr x σ H1 Q) : tMethS C m sp E te tr σ H Q := k
theorem g_methS {dx a : Addr} {fs : List (Str × V)} (h : H a = some (.ins C dx fs)) (l : fs.lookup m = none) (k : tr σ H fun vs H2 => sp (.ref a :: vs) H2 Q (E σ)) : gMethS C m sp E tr (.ref a) σ H Q := ⟨a, dx, fs, rfl, h, l, k⟩
/-- a text so often -/
theorem fold_rep (a : List Nat) : ∀ (m : Nat) (acc : Array Nat), (List.replicate m a.toArray).foldl (· ++ ·) acc = acc ++ ((List.replicate m a).flatten).toArray
  | 0, acc => by simp
  | m + 1, acc => by
    rw [List.replicate_succ, List.foldl_cons, fold_rep a m, List.replicate_succ, List.flatten_cons]
    simp
def uMulS : R2 := fun x y H Q => ∃ (a : List Nat) (n : Nat), x = .str (S a) ∧ y = .int (n : Int) ∧ 2 ≤ n ∧ n ≤ 1000 ∧ a ≠ [] ∧ a.length ≤ 10000 ∧ Q (.str (S ((List.replicate n a).flatten))) H
theorem op_mulS {X : Cx} : OpR X (binaryOp .Mult) uMulS := by
  intro pins s σ H x y v u Q I rx ry ⟨a, n, e1, e2, h2, hn, ha, hl, q⟩
  subst e1 e2
  obtain ⟨t, rfl⟩ := rx
  obtain ⟨t', rfl⟩ := ry
  have hlen : (S a).length = a.length := by simp [S, Str.length]
  have hpos : 0 < a.length := List.length_pos_iff.mpr ha
  have hmul : a.length * n ≤ 10000 * 1000 := Nat.mul_le_mul hl hn
  have z1 : ((n : Int) == 1) = false := by
    rw [beq_eq_false_iff_ne]
    omega
  have z2 : ((S a).length == 0) = false := by
    rw [hlen, beq_eq_false_iff_ne]
    omega
  have hne : ((n : Int) == 1 || (S a).length == 0) = false := by rw [z1, z2]; rfl
  have hN : ((n : Int)).toNat = n := Int.toNat_natCast n
  refine P.mul_str (by rw [decide_eq_false (by omega), decide_eq_false (by omega)]; rfl) (fun _ _ => ?_) (fun _ _ => ?_) ?_
  · rw [hlen]
    refine Int.not_lt.mpr (Int.le_ediv_of_mul_le (by omega) ?_)
    rw [← Int.natCast_mul]
    omega
  · unfold Builtin.Str.tooLong
    rw [hlen, hN, sizeLine_eq]
    exact decide_eq_false (by omega)
  · rw [if_neg (by omega), hne, if_neg (by simp), hN]
    have e : (⟨List.foldl (fun x1 x2 => x1 ++ x2) #[] (List.replicate n (S a).cps)⟩ : Str) = S ((List.replicate n a).flatten) := by
      have h := fold_rep a n #[]
      rw [Array.empty_append] at h
      exact congrArg Str.mk h
    rw [e]
    refine ⟨?_, .str (S ((List.replicate n a).flatten)), H, I.tok _, ⟨_, rfl⟩, q⟩
    have hl2 : (S (List.replicate n a).flatten).length = n * a.length := by simp [S, Str.length]
    rw [hl2, sizeLine_eq, Nat.mul_comm]
    omega
theorem g_mulS {a : List Nat} {n : Nat} {H : Hp} {Q : VK} (h2 : 2 ≤ n) (hn : n ≤ 1000) (ha : a ≠ []) (hl : a.length ≤ 10000) (k : Q (.str (S ((List.replicate n a).flatten))) H) : uMulS (.str (S a)) (.int (n : Int)) H Q := ⟨a, n, rfl, rfl, h2, hn, ha, hl, k⟩
theorem i_kget {K : PySem.W.Frag} {w : World} {td ty tx : TE} {σ : L2.St} {H : Hp} {Q : VK} (k : td σ H fun x H1 => ∃ a z, x = .ref a ∧ KMiss K w a z ∧ ty σ H1 fun y H2 => y = .str z ∧ tx σ H2 Q) : tKGet2 K w td ty tx σ H Q := k
end
end Eg

set_option Elab.async false
set_option linter.all false
set_option maxRecDepth 100000
set_option maxHeartbeats 4000000
/-! quiet defs: bodies that make no exception within; they may be called where one is handled -/
namespace Eg
open PySem PySem.Spec PyProof.Rows L2 Rl SX
/-- nothing is known of what is handled -/
abbrev quiet (X : Cx) : Cx := { X with calm := false }
structure FnQ (P : Program) (w : World) (K : PySem.W.Frag) (mg : Str → Option Value) (base : Heap) (k : Nat) (f : Addr) (fd : FuncData) (ps : List Str) (sp : Sp) : Prop where
  len : ∀ vs H Q E, sp vs H Q E → vs.length = ps.length
  run : ∀ (A : Around) (outer : List Env) (s : Shared) (H : Hp) (args : Args) (us : List Value) (vs : List V) (Q : VK), L2H.RoomH k A → Env0 P w K mg base A outer s H → BindsTo s fd args (ps.zip us) → Vals vs us → sp vs H Q E0 →
    codeAny (model P w) A (.call (.ref f) args) (CR CX0 outer P w H s Q E0) s
theorem FnQ.mono {P : Program} {w : World} {K : PySem.W.Frag} {mg : Str → Option Value} {base : Heap} {j k : Nat} {f : Addr} {fd : FuncData} {ps : List Str} {sp : Sp} (F : FnQ P w K mg base j f fd ps sp) (h : j ≤ k) : FnQ P w K mg base k f fd ps sp :=
  ⟨F.len, fun A outer s H args us vs Q hr => F.run A outer s H args us vs Q (hr.mono h)⟩
theorem inv_around {X : Cx} {A : Around} {xe : Value → Shared → Prop} {pins : List (Addr × Obj)} {σ : L2.St} {H : Hp} {s : Shared} (I : Inv X pins σ H s) (hf : A.frames = some X.stack) : Inv { X with A := A, calm := false, xe := xe } pins σ H s :=
  ⟨⟨I.ok.mod, I.ok.kind, I.ok.glob, I.ok.blt, I.ok.above, I.ok.inj, I.ok.has, I.ok.cab, fun h => Bool.noConfusion (show false = true from h), hf, I.ok.stk, I.ok.exf, I.ok.bs, I.ok.bsz, I.ok.noex, I.ok.exfs, I.ok.funs, I.ok.frf⟩,
    I.os, I.bare, I.base, I.loc, I.cell, I.free, I.freeC, I.pin, I.hok, I.len⟩
section
variable {P : Program} {w : World} {K : PySem.W.Frag} {mg : Str → Option Value} {base : Heap}
theorem env0_mark {A : Around} {outer : List Env} {s : Shared} {H : Hp} (e : Env0 P w K mg base A outer s H) : Env0 P w K mg base { A with handled := none } outer s H := ⟨e.frames, e.mod, e.bs, e.bsz, e.funs, e.frf, e.hok, e.bare⟩
theorem okQ {x qual : Str} {st : Stmt} {f : Addr} {fd : FuncData} {N ps : List Str} {k : Nat} {sp : Sp} (F : Fun K x qual st f fd) (S : FnScope N ps (defScope st)) (len : ∀ vs H Q E, sp vs H Q E → vs.length = ps.length)
    (hbody : ∀ (cdv : Value) (A : Around) (outer : List Env) (s : Shared) (H : Hp) (vs : List V) (Q : VK) (E : XK), L2H.RoomH k (A.deeper (envOfC qual (defScope st) s.heap.objs.size f cdv)) → sp vs H Q E →
      ∃ t, PSs (quiet (cxOf CX0 P w K mg base N qual (defScope st) f cdv A outer s H E).nox) (defBody st) t ∧ t { nx := fun _ H' => Q .non H', rt := Q } (start N vs) H) : FnQ P w K mg base (k + 1) f fd ps sp := by
  obtain ⟨oc, od, kV, doc, pm, an, cdv, ct, osl, rfl, lk, hcd⟩ := F.ex
  refine ⟨len, fun A outer s H args us vs Q hr e0 hb r hsp => ?_⟩
  have hl := len _ _ _ _ hsp
  have KX : K.In s.heap := e0.mod.kin.keeps fun b o e => (e0.bs b o e).1
  have hkind : ∀ y ∈ ps.zip us, (defScope st).names.lookup y.1 = some .local ∨ ((defScope st).names.lookup y.1 = some .cell ∧ ((cellsFrom (s.heap.objs.size + 1) (defScope st).names []).lookup y.1).isSome = true) := fun ⟨n, v⟩ hy => by
    rcases S.par n (List.of_mem_zip hy).1 with q | q
    · exact .inl q
    · exact .inr ⟨q, PySem.W.cellsFrom_some _ _ _ (.inl q)⟩
  refine codeAny_call_function hr.depth (KX _ _ lk) rfl S.co S.gen rfl (PySem.W.codeRec_of KX hcd) (hb _ _ _ _ ?_)
  refine wpAny_newFunctionEnv_cells S.kind hkind fun env he s1 x => ?_
  subst he
  refine ⟨(e0.mod.nolimit.keeps fun b o e => (e0.bs b o e).1).keeps x.toInCall.keep, codeAny_func ?_⟩
  obtain ⟨t, ht, hq⟩ := hbody cdv A outer s H vs Q E0 (hr.deeper _) hsp
  have I0 := inv_start (CX := CX0) (E := E0) (f := f) (cd := cdv) S (show ({ A with handled := none } : Around).handled = none from rfl) (env0_mark e0) hl r x
  have I : Inv (quiet (cxOf CX0 P w K mg base N qual (defScope st) f cdv A outer s H E0)) [] (start N vs) H s1 := inv_around (X := cxOf CX0 P w K mg base N qual (defScope st) f cdv { A with handled := none } outer s H E0) (A := A.deeper (envOfC qual (defScope st) s.heap.objs.size f cdv)) I0 (Around.frames_deeper e0.frames)
  refine wpAny_mono ((PSs.nox (X := quiet (cxOf CX0 P w K mg base N qual (defScope st) f cdv A outer s H E0)) ht).run [] s1 (start N vs) H _ I hq) (fun fl s' hs => ?_) fun e s' hs => hs
  cases fl with
  | ret u =>
    obtain ⟨v, σ', H', J, rv, q⟩ := hs
    exact ⟨v, H', J.os, J.bare, J.base, J.hok, rv, q⟩
  | next =>
    obtain ⟨σ', H', J, q⟩ := hs
    exact ⟨.non, H', J.os, J.bare, J.base, J.hok, rfl, q⟩
  | brk => exact hs.elim fun _ h => h.elim fun _ h => h.2.elim
  | cont => exact hs.elim fun _ h => h.elim fun _ h => h.2.elim
end
section
variable {X : Cx} {k : Nat} {f C : Addr} {fd : FuncData} {ps : List Str} {sp : Sp} {x m : Str} {p pos apos : Pos} {o e : Expr} {es : List Expr} {ta : TE} {t : TA}
theorem run_fnQ {pins : List (Addr × Obj)} {σ : L2.St} {H : Hp} {s : Shared} {Q : VK} {us : List Value} {vs : List V} (F : FnQ X.prog X.w X.K X.mg X.base k f fd ps sp) (hr : L2H.RoomH k X.A) (hb : Binds X.K fd ps [])
    (I : Inv X pins σ H s) (r : Vals vs us) (h : sp vs H Q E0) : wpAny (model X.prog X.w) X.A (call (.ref f) us) (EP X pins σ Q) X.xe s := by
  have hl : us.length = ps.length := by rw [← r.length]; exact F.len _ _ _ _ h
  have b := hb s us I.kIn (by rw [List.append_nil]; exact hl)
  rw [List.append_nil] at b
  refine wpAny_call (codeAny_mono (F.run X.A X.stack s H ⟨us, []⟩ us vs Q hr I.env0 b r h) fun r s' hq => ?_)
  cases r with
  | error e => exact False.elim hq
  | ok fl =>
    cases fl with
    | ret u => exact I.after hq
    | next => exact False.elim hq
    | brk => exact False.elim hq
    | cont => exact False.elim hq
structure MthQ (P : Program) (w : World) (K : PySem.W.Frag) (mg : Str → Option Value) (base : Heap) (k : Nat) (C : Addr) (x : Str) (ps : List Str) (sp : Sp) : Prop where
  ex : ∃ (f : Addr) (fd : FuncData), FnQ P w K mg base k f fd ps sp ∧ Meth K C x f ∧ Binds K fd ps []
  cl : Cls K C
structure DfnQ (P : Program) (w : World) (K : PySem.W.Frag) (mg : Str → Option Value) (base : Heap) (k : Nat) (x : Str) (ps : List Str) (sp : Sp) : Prop where
  ex : ∃ (f : Addr) (fd : FuncData), FnQ P w K mg base k f fd ps sp ∧ mg x = some (.ref f) ∧ PySem.W.keepIn K (.ref f) = true ∧ Binds K fd ps []
theorem pe_dfnQ (D : DfnQ X.prog X.w X.K X.mg X.base k x ps sp) (hr : L2H.RoomH k X.A) (hg : Gl X x) (ha : PA X (e :: es) t)
    (hdb : (x == ("__debug__" : Str)) = false := by decide) (he : starEach (e :: es) X.env = (false, eval e X.env) :: starEach es X.env := by rfl) (hpl : (backTo pos (starEach es X.env)).any (·.1) = false := by rfl) :
    PE X (.Call (.Name x p) (e :: es) [] pos) (tCall sp [] E0 t) := by
  obtain ⟨f, fd, F, hm, hk, hb⟩ := D.ex
  refine ⟨fun pins s σ H Q I h => ?_⟩
  refine wpAny_Call_Name_kw (ld_glob I hg hm ?_ hdb)
  refine PySem.W.callWith_K (h₀ := X.base) I.ok.mod.kin hk (thn (ha.run pos pins s σ H _ I h) fun us s1 ⟨vs, H1, I1, r, q⟩ => ⟨I1.kIn, ?_⟩) he hpl
  simp only [List.append_nil] at q
  exact run_fnQ F hr hb I1 r q
theorem pe_mthQ (D : MthQ X.prog X.w X.K X.mg X.base k C m ps sp) (hr : L2H.RoomH k X.A) {pl : Sem Bool} (ho : PE X o ta) (ha : PA X (e :: es) t)
    (hst : starEach (e :: es) X.env = (false, eval e X.env) :: starEach es X.env := by rfl) (hpl : (backTo pos (starEach es X.env)).any (·.1) = false := by rfl)
    (ht : eval (.Call (.Attribute o m apos) (e :: es) [] pos) X.env = (do
      let ov ← eval o X.env
      standAt apos.atName
      let (f, first) ← holding [ov] (getMethod ov m pl)
      callWith pos f first (backTo pos (starEach (e :: es) X.env)) (backToKw pos (keywordEach [] X.env))) := by rfl) :
    PE X (.Call (.Attribute o m apos) (e :: es) [] pos) (tMeth C m sp [] E0 ta t) := by
  obtain ⟨g, fd, F, hm, hb⟩ := D.ex
  refine ⟨fun pins s σ H Q I h => ?_⟩
  refine PySem.W.methodCall_KW (pl := pl) (thn (ho.run pins s σ H _ I h) fun u s1 ⟨y, H1, I1, ry, a, dx, fs, ey, ea, l, q⟩ => ?_) ht
  subst ey
  cases ry
  refine getmeth_ok I1 ea D.cl hm l ?_
  refine PySem.W.callWith_K (first := [.ref a]) (h₀ := X.base) I.ok.mod.kin hm.kp (thn (ha.run pos pins s1 σ H1 _ I1 q) fun us s2 ⟨vs, H2, I2, r, q2⟩ => ⟨I2.kIn, ?_⟩) hst hpl
  simp only [List.append_nil] at q2
  exact run_fnQ (us := .ref a :: us) (vs := .ref a :: vs) F hr hb I2 (.cons rfl r) q2
theorem pe_mthQ0 (D : MthQ X.prog X.w X.K X.mg X.base k C m ps sp) (hr : L2H.RoomH k X.A) {pl : Sem Bool} (ho : PE X o ta)
    (ht : eval (.Call (.Attribute o m apos) [] [] pos) X.env = (do
      let ov ← eval o X.env
      standAt apos.atName
      let (f, first) ← holding [ov] (getMethod ov m pl)
      callWith pos f first (backTo pos (starEach [] X.env)) (backToKw pos (keywordEach [] X.env))) := by rfl) :
    PE X (.Call (.Attribute o m apos) [] [] pos) (tMeth C m sp [] E0 ta tNil) := by
  obtain ⟨g, fd, F, hm, hb⟩ := D.ex
  refine ⟨fun pins s σ H Q I h => ?_⟩
  refine PySem.W.methodCall_KW (pl := pl) (thn (ho.run pins s σ H _ I h) fun u s1 ⟨y, H1, I1, ry, a, dx, fs, ey, ea, l, q⟩ => ?_) ht
  subst ey
  cases ry
  refine getmeth_ok I1 ea D.cl hm l ?_
  exact PySem.W.callWith_K0 (first := [.ref a]) I1.kIn hm.kp (run_fnQ (us := [.ref a]) (vs := [.ref a]) F hr hb I1 (.cons rfl .nil) q)
end
end Eg
theorem L2H.RoomH.units {k : Nat} {A : PySem.Around} (r : L2H.RoomH k A) : A.units + 64 < PySem.cLine := by have := r.un; omega
theorem hu_ofH {A : PySem.Around} {k : Nat} (hr : L2H.RoomH k A) : A.units + 1 < PySem.cLine := by have := hr.un; omega

set_option Elab.async false
set_option linter.all false
set_option maxRecDepth 100000
set_option maxHeartbeats 4000000
/-! a lambda that is handed from def to def; an exception that is handed to a def -/
namespace Eg
open PySem PySem.Spec PyProof.Rows L2 Rl SX
/-! what stands below a call's frames stays -/
theorem un_less {fs fs' : List Addr} {H H' : Hp} {h h' : Heap} (u : Un fs' [] H H' h h') (m : ∀ b ∈ fs, b ∈ fs') (n : ∀ b ∈ fs', b ∈ fs ∨ h.get? b = none) : Un fs [] H H' h h' :=
  ⟨fun b o q e hb hx => u.keep b o q e (fun z => (n b z).elim hb fun y => by rw [y] at q; cases q) hx, fun b o q e hb hx => u.slot b o q e (m b hb) hx, u.free, u.there, u.tups, u.frzs, u.tbls⟩
/-- what the lambda at f does, called from any state that came out of (h0, H0) with the frames fs kept -/
structure LamV (P : Program) (w : World) (K : PySem.W.Frag) (mg : Str → Option Value) (base : Heap) (k : Nat) (fs : List Addr) (f : Addr) (H0 : Hp) (h0 : Heap) (tl : XK → Hp → VK → Prop) : Prop where
  obj : ∃ (q : Str) (params : Arguments) (body : Expr) (scope : Scope) (cl : List (Str × Addr)) (pm ctv : Value) (c' : Addr), h0.get? f = some (PySem.W.kla_obj "<lambda>" q params body scope cl pm c' ctv)
  non : H0 f = none
  nfr : f ∉ fs
  run : ∀ (A : Around) (outer : List Env) (s : Shared) (HZ : Hp) (Q : VK) (E : XK), Room k A → Env0 P w K mg base A outer s HZ → Un fs [] H0 HZ h0 s.heap → tl E HZ Q →
    codeAny (model P w) A (.call (.ref f) ⟨[], []⟩) (CR (L2.CX P w) outer P w HZ s Q E) s
section
variable {P : Program} {w : World} {K : PySem.W.Frag} {mg : Str → Option Value} {base : Heap} {k : Nat} {fs fs' : List Addr} {f : Addr} {H0 H1 : Hp} {h0 h1 : Heap} {tl : XK → Hp → VK → Prop}
theorem LamV.step (l : LamV P w K mg base k fs f H0 h0 tl) (u : Un fs [] H0 H1 h0 h1) (m : ∀ b ∈ fs, b ∈ fs') (n : ∀ b ∈ fs', b ∈ fs ∨ h0.get? b = none) : LamV P w K mg base k fs' f H1 h1 tl := by
  obtain ⟨q, params, body, scope, cl, pm, ctv, c', e⟩ := l.obj
  refine ⟨⟨q, params, body, scope, cl, pm, ctv, c', u.keep f _ e l.non l.nfr (by simp)⟩, u.free f _ e l.non (by simp), fun z => (n f z).elim l.nfr (fun y => by rw [y] at e; cases e), fun A outer s HZ Q E hr e0 u2 h => ?_⟩
  exact l.run A outer s HZ Q E hr e0 (un_less ((u.mono m (fun b hb => hb)).trans u2) m n) h
end
/-- a def that gets a lambda first -/
structure FnL (P : Program) (w : World) (K : PySem.W.Frag) (mg : Str → Option Value) (base : Heap) (k kl : Nat) (g : Addr) (fd : FuncData) (ps : List Str) (sp : (XK → Hp → VK → Prop) → Sp) : Prop where
  len : ∀ tl vs H Q E, sp tl vs H Q E → vs.length + 1 = ps.length
  run : ∀ (A : Around) (outer : List Env) (s : Shared) (H : Hp) (us : List Value) (vs : List V) (Q : VK) (f : Addr) (tl : XK → Hp → VK → Prop), Room k A → Env0 P w K mg base A outer s H → BindsTo s fd ⟨.ref f :: us, []⟩ (ps.zip (.ref f :: us)) → Vals vs us →
    LamV P w K mg base kl (frs outer) f H s.heap tl → sp tl vs H Q E0 → codeAny (model P w) A (.call (.ref g) ⟨.ref f :: us, []⟩) (CR CX0 outer P w H s Q E0) s
structure DfnL (P : Program) (w : World) (K : PySem.W.Frag) (mg : Str → Option Value) (base : Heap) (k kl : Nat) (x : Str) (ps : List Str) (sp : (XK → Hp → VK → Prop) → Sp) : Prop where
  ex : ∃ (g : Addr) (fd : FuncData), FnL P w K mg base k kl g fd ps sp ∧ mg x = some (.ref g) ∧ PySem.W.keepIn K (.ref g) = true ∧ Binds K fd ps []
section
variable {P : Program} {w : World} {K : PySem.W.Frag} {mg : Str → Option Value} {base : Heap}
theorem okL {x : Str} {st : Stmt} {g : Addr} {fd : FuncData} {N ps : List Str} {k kl : Nat} {sp : (XK → Hp → VK → Prop) → Sp} (F : Fun K x x st g fd) (S : FnScope N ps (defScope st)) (len : ∀ tl vs H Q E, sp tl vs H Q E → vs.length + 1 = ps.length)
    (hbody : ∀ (cdv : Value) (A : Around) (outer : List Env) (s : Shared) (H : Hp) (vs : List V) (Q : VK) (f : Addr) (tl : XK → Hp → VK → Prop), Room k (A.deeper (envOfC x (defScope st) s.heap.objs.size g cdv)) → LamV P w K mg base kl (frs outer) f H s.heap tl → sp tl vs H Q E0 →
      ∃ t, PSs (cxOf CX0 P w K mg base N x (defScope st) g cdv A outer s H E0).nox (defBody st) t ∧ t { nx := fun _ H' => Q .non H', rt := Q } (start N (.ref f :: vs)) H) : FnL P w K mg base (k + 1) kl g fd ps sp := by
  obtain ⟨oc, od, kV, doc, pm, an, cdv, ct, osl, rfl, lk, hcd⟩ := F.ex
  refine ⟨len, fun A outer s H us vs Q f tl hr e0 hb r hl hsp => LamX.run_ofS lk hcd S hr e0 hb (vs := .ref f :: vs) (.cons rfl r) (len tl vs H Q E0 hsp) fun hr' => ?_⟩
  obtain ⟨t, h, q⟩ := hbody cdv A outer s H vs Q f tl hr' hl hsp
  exact ⟨t, h.nox, q⟩
end
/-! calls of it, calls that hand it on -/
def tLamC (i : Nat) (f : Addr) (tl : XK → Hp → VK → Prop) (W : WX) : TE := fun σ H Q => σ[i]? = some (some (.ref f)) ∧ tl (WE W σ) H Q
def tFwd (i : Nat) (f : Addr) (sp : (XK → Hp → VK → Prop) → Sp) (tl : XK → Hp → VK → Prop) (t : TA) : TE := fun σ H Q => σ[i]? = some (some (.ref f)) ∧ t σ H fun vs H1 => sp tl vs H1 Q E0
section
variable {X : Cx} {k kl i : Nat} {f : Addr} {tl : XK → Hp → VK → Prop} {W : WX} {a x : Str} {p1 p2 pos : Pos} {ps : List Str} {sp : (XK → Hp → VK → Prop) → Sp} {es : List Expr} {t : TA}
theorem pe_lamc (hL : LamV X.prog X.w X.K X.mg X.base k X.fs f X.H_0 X.s_0.heap tl) (hex : X.ex = []) (hr : Room k X.A) (tk : Takes X W) (hN : X.N[i]? = some a := by rfl) (hv : Vis X.env.scope a := by first | exact Or.inl rfl | exact Or.inr (Or.inl rfl) | exact Or.inr (Or.inr rfl)) (hd : (a == ("__debug__" : Str)) = false := by decide)
    (hcd : (a == ("__classdict__" : Str)) = false := by decide) : PE X (.Call (.Name a p1) [] [] p2) (tLamC i f tl W) := by
  refine ⟨fun pins s σ H Q I h => ?_⟩
  obtain ⟨hs, ht⟩ := h
  refine wpAny_Call_Name_kw (thn ((pe_var (pos := p1) (i := i) hN hv hd hcd).run pins s σ H (fun v H1 => v = .ref f ∧ H1 = H) I ⟨.ref f, hs, rfl, rfl⟩) fun u s1 ⟨v, H1, I1, r1, ev, eH⟩ => ?_)
  subst ev eH
  cases r1
  have u1 : Un X.fs [] X.H_0 H1 X.s_0.heap s1.heap := by have := I1.base; rwa [hex] at this
  have L1 := hL.step u1 (fun _ hb => hb) fun _ hb => .inl hb
  obtain ⟨q, params, body, scope, cl, pm, ctv, c', e⟩ := L1.obj
  refine PySem.W.callWith_F0 ⟨_, _, _, _, e⟩ (wpAny_call (codeAny_mono (hL.run X.A X.stack s1 H1 Q (WE W σ) hr I1.env0 u1 ht) fun r s' hq => ?_))
  cases r with
  | error er => exact passAt tk σ pins H1 s1 er s' I1 hq
  | ok fl =>
    cases fl with
    | ret u => exact I1.after hq
    | next => exact False.elim hq
    | brk => exact False.elim hq
    | cont => exact False.elim hq
theorem run_fnL {pins : List (Addr × Obj)} {σ : L2.St} {H : Hp} {s : Shared} {Q : VK} {us : List Value} {vs : List V} {g : Addr} {fd : FuncData} (F : FnL X.prog X.w X.K X.mg X.base k kl g fd ps sp) (hr : Room k X.A) (hb : Binds X.K fd ps [])
    (I : Inv X pins σ H s) (r : Vals vs us) (hL : LamV X.prog X.w X.K X.mg X.base kl (frs X.stack) f H s.heap tl) (h : sp tl vs H Q E0) : wpAny (model X.prog X.w) X.A (call (.ref g) (.ref f :: us)) (EP X pins σ Q) X.xe s := by
  have hl : (Value.ref f :: us).length = ps.length := by rw [List.length_cons, ← r.length]; exact F.len _ _ _ _ _ h
  have b := hb s (.ref f :: us) I.kIn (by rw [List.append_nil]; exact hl)
  rw [List.append_nil] at b
  refine wpAny_call (codeAny_mono (F.run X.A X.stack s H us vs Q f tl hr I.env0 b r hL h) fun r s' hq => ?_)
  cases r with
  | error e => exact False.elim hq
  | ok fl =>
    cases fl with
    | ret u => exact I.after hq
    | next => exact False.elim hq
    | brk => exact False.elim hq
    | cont => exact False.elim hq
theorem pe_fwd (D : DfnL X.prog X.w X.K X.mg X.base k kl x ps sp) (hL : LamV X.prog X.w X.K X.mg X.base kl X.fs f X.H_0 X.s_0.heap tl) (hex : X.ex = []) (hst : X.stack = X.env :: X.outer) (hfl : X.env.frame = some X.env.locals) (hr : Room k X.A) (hg : Gl X x) (ha : PA X es t)
    (hN : X.N[i]? = some a := by rfl) (hv : Vis X.env.scope a := by first | exact Or.inl rfl | exact Or.inr (Or.inl rfl) | exact Or.inr (Or.inr rfl)) (hd : (a == ("__debug__" : Str)) = false := by decide)
    (hcd : (a == ("__classdict__" : Str)) = false := by decide) (hdb : (x == ("__debug__" : Str)) = false := by decide)
    (he : starEach (.Name a p2 :: es) X.env = (false, eval (.Name a p2) X.env) :: starEach es X.env := by rfl) (hpl : (backTo pos (starEach es X.env)).any (·.1) = false := by rfl) :
    PE X (.Call (.Name x p1) (.Name a p2 :: es) [] pos) (tFwd i f sp tl t) := by
  obtain ⟨g, fd, F, hm, hk, hb⟩ := D.ex
  refine ⟨fun pins s σ H Q I h => ?_⟩
  obtain ⟨hs, ht⟩ := h
  refine wpAny_Call_Name_kw (ld_glob I hg hm ?_ hdb)
  refine PySem.W.callWith_K (h₀ := X.base) I.ok.mod.kin hk ?_ he hpl
  rw [he]
  show wpAny _ _ (spliced ((false, eval (.Name a p2) X.env) :: backTo pos (starEach es X.env))) _ _ _
  refine Calls.spliced_cons (thn ((pe_var (pos := p2) (i := i) hN hv hd hcd).run pins _ σ H (fun v H1 => v = .ref f ∧ H1 = H) I ⟨.ref f, hs, rfl, rfl⟩) fun u s1 ⟨v, H1, I1, r1, ev, eH⟩ => ?_)
  subst ev eH
  cases r1
  refine thn (ha.run pos pins s1 σ H1 _ I1 ht) fun us s2 ⟨vs, H2, I2, r, q⟩ => ⟨I2.kIn, run_fnL F hr hb I2 r ?_ q⟩
  have u2 : Un X.fs [] X.H_0 H2 X.s_0.heap s2.heap := by have := I2.base; rwa [hex] at this
  refine hL.step u2 (fun b hb => ?_) fun b hb => ?_
  · rw [hst]
    show b ∈ List.filterMap (·.frame) (X.env :: X.outer)
    rw [List.filterMap_cons, hfl]
    exact List.mem_cons_of_mem _ hb
  · rw [hst] at hb
    have hb : b ∈ List.filterMap (·.frame) (X.env :: X.outer) := hb
    rw [List.filterMap_cons, hfl] at hb
    rcases List.mem_cons.mp hb with e | e
    · refine .inr ?_
      rw [e]
      exact Heap.get?_none_of_le I2.ok.above
    · exact .inl e
/-! a lambda without parameters, made as the first argument -/
def tLam2 (T : List (Addr × Str)) (q : Str) (sp : (XK → Hp → VK → Prop) → Sp) (t : XK → TE) (ta : TA) : TE := fun σ H Q => LamX.Tabs T H ∧ ∀ H1, LamX.ExtN H H1 → LamX.Tabs T H1 → ∀ c', H1 c' = some (LamX.CodeO c' q) →
  ta σ H1 fun vs H2 => sp (fun E HZ Q' => HZ c' = some (LamX.CodeO c' q) ∧ t E σ HZ Q') vs H2 Q E0
theorem pe_lam {T : List (Addr × Str)} {c P : Addr} {params : Arguments} {body : Expr} {scope : Scope} {tb : XK → TE} {lpos : Pos} (D : DfnL X.prog X.w X.K X.mg X.base k (kl + 1) x ps sp) (hr : Room k X.A) (hg : Gl X x) (ha : PA X es t)
    (TB : LamX.TabB X.base X.mg c P) (hcode : X.env.code = .ref c) (hmT : (P, X.env.qual ++ "<lambda>") ∈ T) (hu : ∀ p ∈ T, p.1 = P → p.2 = X.env.qual ++ "<lambda>") (L : LamX.LamS X.env.scope scope) (hdef : defaultsOf params X.env = ([], []))
    (hbind : ∀ (q : Str) (cl : List (Str × Addr)) (pm cv ctv : Value), bindArgs (PySem.W.kla_fn "<lambda>" q params body scope cl pm cv ctv) ⟨[], []⟩ = pure [])
    (hbody : ∀ (A : Around) (outer : List Env) (s : Shared) (H : Hp) (E : XK) (f c' : Addr), Room kl (A.deeper (LamX.lamEnv X scope s.heap.objs.size f c')) → PE (LamX.lamCx X A outer s H E scope f c') body (tb E))
    (hst : X.stack = X.env :: X.outer) (hfl : X.env.frame = some X.env.locals) (hdb : (x == ("__debug__" : Str)) = false := by decide)
    (he : starEach (.Lambda params body scope lpos :: es) X.env = (false, eval (.Lambda params body scope lpos) X.env) :: starEach es X.env := by rfl) (hpl : (backTo pos (starEach es X.env)).any (·.1) = false := by rfl) :
    PE X (.Call (.Name x p1) (.Lambda params body scope lpos :: es) [] pos) (tLam2 T (X.env.qual ++ "<lambda>") sp tb t) := by
  obtain ⟨g, fd, F, hm, hk, hb⟩ := D.ex
  refine ⟨fun pins s σ H Q I h => ?_⟩
  obtain ⟨hT, h⟩ := h
  refine wpAny_Call_Name_kw (ld_glob I hg hm ?_ hdb)
  refine PySem.W.callWith_K (h₀ := X.base) I.ok.mod.kin hk ?_ he hpl
  rw [he]
  show wpAny _ _ (spliced ((false, eval (.Lambda params body scope lpos) X.env) :: backTo pos (starEach es X.env))) _ _ _
  refine Calls.spliced_cons (LamX.lam_make2 (I.tok _) TB hcode hmT hu hT hdef (L.has I.ok) fun f c' pm' ctv H1 s1 I1 eN T1 hf hfn hfr hco => ?_)
  rw [hst] at hfr
  have hfr2 : f ∉ X.env.locals :: frs X.outer := by
    have e : frs (X.env :: X.outer) = X.env.locals :: frs X.outer := by
      unfold frs
      rw [List.filterMap_cons, hfl]
    rwa [e] at hfr
  have hnl : f ≠ X.env.locals := fun z => hfr2 (by rw [z]; exact List.mem_cons_self)
  have hnf : f ∉ X.fs := fun z => hfr2 (List.mem_cons_of_mem _ z)
  generalize eo : PySem.W.kla_obj "<lambda>" (X.env.qual ++ "<lambda>") params body scope (cloFrom X.env.cells scope.names []) pm' c' ctv = o at hf
  have J1 : Inv X (pins ++ [(f, o)]) σ H1 s1 := I1.pins_of fun p hp => by
    rcases List.mem_append.mp hp with z | z
    · exact I1.pin p (List.mem_append_right _ z)
    · rw [List.mem_singleton.mp z]
      refine ⟨hf, hfn, hnl, hnf, fun v z => ?_⟩
      rw [← eo] at z
      cases z
  refine thn (ha.run pos _ s1 σ H1 _ J1 (h H1 eN T1 c' hco)) fun us s2 ⟨vs, H2, J2, r, q⟩ => ?_
  have I2 := J2.unpinned
  obtain ⟨hf2, hn2, _⟩ := J2.pin (f, o) (List.mem_append_right _ (List.mem_append_right _ (List.mem_singleton.mpr rfl)))
  refine ⟨I2.kIn, run_fnL F hr hb I2 r ⟨⟨_, _, _, _, _, _, _, _, by rw [eo]; exact hf2⟩, hn2, by rw [hst]; exact hfr, fun A outer s HZ Q' E hr' e0 u ⟨hcz, ht⟩ => ?_⟩ q⟩
  have u0 := u
  obtain ⟨⟨oc, us', t', hoc, hdc, hvc⟩, _, _⟩ := e0.hok c' _ hcz
  have of1 : s.heap.get? f = some (PySem.W.kla_obj "<lambda>" (X.env.qual ++ "<lambda>") params body scope (cloFrom X.env.cells scope.names []) pm' c' ctv) := by
    rw [eo]
    exact u.keep f _ hf2 hn2 (by rw [hst]; exact hfr) (by simp)
  refine PySem.W.kla_callFunE hr'.depth of1 rfl L.co L.gen rfl ⟨c', oc, us', t', rfl, hoc, hdc, hvc⟩ ?_
  rw [hbind]
  have hnl' : s.heap.NoLimit := e0.mod.nolimit.keeps fun b o e => (e0.bs b o e).1
  refine wpAny_pure (wpAny_newFunctionEnv (fun y hy => (L.own y hy).2) (fun y hy => absurd hy (by simp)) (fun h₁ hns hsb => ⟨hnl'.fresh _ hsb, ?_⟩) L.kind)
  have kp : ∀ b o, s.heap.get? b = some o → h₁.get? b = some o := fun b o e => hsb.extBut b o (Nat.ne_of_lt (Heap.lt_size e)) (Heap.get?_push_of_some _ e)
  have J := LamX.lam_start2 (E := E) (f := f) (c' := c') (tk := s.toks + ([] : List (Str × Value)).length) I2 L e0 hr'.hd u0 hns kp
  refine PySem.W.kla_codeExpr (wpAny_mono ((hbody A outer s HZ E f c' (hr'.deeper _)).run [] _ _ HZ Q' J ht) (fun v s' hq => ?_) fun e s' hq => hq)
  obtain ⟨w', H', J', rv, q⟩ := hq
  exact ⟨w', H', J'.os, J'.bare, J'.base, J'.hok, rv, q⟩
theorem i_lam2 {T : List (Addr × Str)} {q : Str} {tb : XK → TE} {ta : TA} {σ : L2.St} {H : Hp} {Q : VK} (hT : LamX.Tabs T H) (h : ∀ H1, LamX.ExtN H H1 → LamX.Tabs T H1 → ∀ c', H1 c' = some (LamX.CodeO c' q) → ta σ H1 fun vs H2 => sp (fun E HZ Q' => HZ c' = some (LamX.CodeO c' q) ∧ tb E σ HZ Q') vs H2 Q E0) : tLam2 T q sp tb ta σ H Q := ⟨hT, h⟩
/-- the name of the lambdas of a def -/
abbrev lq (x : Str) : Str := (x ++ ".<locals>.") ++ "<lambda>"
end
end Eg

set_option Elab.async false
set_option linter.all false
set_option maxRecDepth 100000
set_option maxHeartbeats 4000000
namespace Eg
open PySem PySem.Spec PyProof.Rows L2 Rl SX
/-- what isinstance asks of an exception's class -/
structure XisC (K : PySem.W.Frag) (D : Addr) : Prop where
  hcl : (PySem.W.clsIn K D).isSome = true
  hga : PySem.W.findIn K (.ref D) "__getattribute__" = some (some (.builtin "BaseException.__getattribute__"))
  hgt : PySem.W.findIn K (.ref D) "__getattr__" = some none
  hsub : PySem.W.subIn K (.ref D) (.type "BaseException") = some true
  ha : PySem.W.findIn K (.ref D) "__class__" = some (some (.builtin "object.__class__"))
  hn : PySem.W.specialIn K (.builtin "object.__class__") "__get__" = some (some (.builtin "getset_descriptor.__get__"))
  htk : PySem.W.takesIn K (.builtin "object.__class__") = some true
  hm : PySem.W.mroIn K D (.type "object") = some true
/-- the caught exception, asked by isinstance: one class or a tuple of them that was just laid -/
def rIsX (K : PySem.W.Frag) (a : Addr) (cls : Value) (d : Option Addr) : List V → Hp → VK → Prop := fun xs H Q => ∃ (D dd : Addr) (fs : List (Str × V)) (c : V) (b : Bool), xs = [.ref a, c] ∧ cls = .ref D ∧ XisC K D ∧ d = some dd ∧ H dd = some (.xd fs) ∧
  ((∃ cv, ClsV c cv ∧ PySem.W.kitOne K (.ref D) cv = some b) ∨ ∃ (tp : Addr) (cs : List V) (us : List Value), c = .ref tp ∧ H tp = some (.tup cs) ∧ Paired ClsV cs us ∧ PySem.W.kitAny K (.ref D) us = some b) ∧ Q (.bl b) H
/-- its field -/
def tXfA (K : PySem.W.Frag) (a : Addr) (cls : Value) (d : Option Addr) (f : Str) (te : TE) : TE := fun σ H Q => te σ H fun x H1 => ∃ (C dd : Addr) (fs : List (Str × V)) (v : V), x = .ref a ∧ cls = .ref C ∧ XfC K C ∧ PySem.W.findIn K (.ref C) f = some none ∧ d = some dd ∧ H1 dd = some (.xd fs) ∧ fs.lookup f = some v ∧ Q v H1
section
variable {X : Cx} {a : Addr} {cls : Value} {d : Option Addr} {oe : Obj} {pn : List (Addr × Obj)} {e : Expr} {te : TE} {pos : Pos} {n : Str}
theorem inst_at {X : Cx} {C dd : Addr} {fs : List (Str × V)} {pins : List (Addr × Obj)} {σ : L2.St} {H : Hp} {s : Shared} (I : Inv (X.suite a ((a, oe) :: pn)) pins σ H s) (hz : Zc (.ref C) (some dd) oe) (hf : ∃ vs, oe.data = .fields vs) (ea : H dd = some (.xd fs)) :
    ∃ od, PySem.W.InstAt s.heap a oe C (some od) ∧ ∀ v, fs.lookup n = some v → ∃ u, PySem.W.lookIn n od = some (some u) ∧ RelV v u := by
  obtain ⟨ha, _⟩ := I.pin (a, oe) (List.mem_append_left _ List.mem_cons_self)
  obtain ⟨vs, hd⟩ := hf
  obtain ⟨mA, hns, hr⟩ := (show ObjOk X.prog X.w H s.heap dd (.xd fs) from I.hok dd _ ea)
  obtain ⟨od, ho, hl⟩ := lookIn_ns hns
  refine ⟨od, ⟨ha, hz.1, by unfold PySem.W.notCls; rw [hd] <;> rfl, by rw [hz.2]; exact ho⟩, fun v l => ?_⟩
  obtain ⟨u, hu, ru⟩ := RelO.some_of (v := v) (o := mA n) (by rw [← l]; exact hr n)
  exact ⟨u, by rw [hl, hu], ru⟩
theorem pe_xfA (hz : Zc cls d oe) (hf : ∃ vs, oe.data = .fields vs) (he : PE (X.suite a ((a, oe) :: pn)) e te) (hb : attributeBase e n X.env (eval e X.env) = eval e X.env := by rfl) :
    PE (X.suite a ((a, oe) :: pn)) (.Attribute e n pos) (tXfA X.K a cls d n te) := by
  refine ⟨fun pins s σ H Q I h => attr_of hb (thn (he.run pins s σ H _ I h) fun u s1 ⟨x, H1, I1, rx, C, dd, fs, v, ex, ec, T, hno, ed, ea, l, q⟩ => ?_)⟩
  subst ex ec ed
  cases rx
  obtain ⟨od, J, g⟩ := inst_at (n := n) I1 hz hf ea
  obtain ⟨u, hu, ru⟩ := g v l
  exact HandSPX.exc_get I1.kIn J T.ga T.gg T.exC (PySem.W.findObj_own T.hdC hno rfl hu) (handed_of ru) ⟨v, H1, I1.tok _, ru, q⟩
theorem call_isX (hz : Zc cls d oe) (hf : ∃ vs, oe.data = .fields vs) : CallR (X.suite a ((a, oe) :: pn)) (.builtin "isinstance") (rIsX X.K a cls d) := by
  intro pins s σ H xs us Q I r h
  obtain ⟨D, dd, fs, c, b, rfl, ec, T, ed, ea, h, q⟩ := h
  subst ec ed
  obtain ⟨u1, u2, rfl, r1, r2⟩ := vals2 r
  cases (show u1 = Value.ref a from r1)
  obtain ⟨od, J, _⟩ := inst_at (n := "x") I hz hf ea
  have Z := PySem.W.kitx_exc (x := a) (ox := oe) (od := some od) T.hcl T.hga T.hgt T.hsub T.ha T.hn T.htk T.hm
  rcases h with ⟨cv, k, e1⟩ | ⟨tp, cs, ws, ec, hT, k, e1⟩
  · have e2 := k.eq r2
    subst e2
    exact PySem.W.kia_one Z I.kIn J e1 (fun z => nomatch z) fun tk => ⟨.bl b, H, I.tok tk, rfl, q⟩
  · subst ec
    cases (show u2 = Value.ref tp from r2)
    obtain ⟨_, its, rv, o, h1, h2, m, h3⟩ := (show ObjOk X.prog X.w H s.heap tp (.tup cs) from I.hok tp _ hT)
    have e3 := ClsV.all k rv
    subst e3
    obtain ⟨oc, od', dt, sl⟩ := o
    simp only at h2 h3
    subst h2 h3
    exact PySem.W.kia_tup Z I.kIn J h1 e1 (fun z => nomatch z) fun tk => ⟨.bl b, H, I.tok tk, rfl, q⟩
end
/-! a def that gets the caught exception -/
structure FnE (P : Program) (w : World) (K : PySem.W.Frag) (mg : Str → Option Value) (base : Heap) (k : Nat) (g : Addr) (fd : FuncData) (ps : List Str) (sp : Value → Option Addr → Sp) : Prop where
  one : ps.length = 1
  run : ∀ (A : Around) (outer : List Env) (s : Shared) (H : Hp) (Q : VK) (a : Addr) (oe : Obj) (cls : Value) (d : Option Addr), L2H.RoomH k (A.mark (some (.ref a))) → L2H.PinOk outer H s (a, oe) → Zc cls d oe → (∃ vs, oe.data = .fields vs) → Env0 P w K mg base (A.mark (some (.ref a))) outer s H →
    BindsTo s fd ⟨[.ref a], []⟩ (ps.zip [.ref a]) → sp cls d [.ref a] H Q E0 → codeAny (model P w) (A.mark (some (.ref a))) (.call (.ref g) ⟨[.ref a], []⟩) (CR CX0 outer P w H s Q E0) s
structure DfnE (P : Program) (w : World) (K : PySem.W.Frag) (mg : Str → Option Value) (base : Heap) (k : Nat) (x : Str) (ps : List Str) (sp : Value → Option Addr → Sp) : Prop where
  ex : ∃ (g : Addr) (fd : FuncData), FnE P w K mg base k g fd ps sp ∧ mg x = some (.ref g) ∧ PySem.W.keepIn K (.ref g) = true ∧ Binds K fd ps []
section
variable {P : Program} {w : World} {K : PySem.W.Frag} {mg : Str → Option Value} {base : Heap}
theorem okE {x : Str} {st : Stmt} {g : Addr} {fd : FuncData} {N ps : List Str} {k : Nat} {sp : Value → Option Addr → Sp} (F : Fun K x x st g fd) (S : FnScope N ps (defScope st)) (one : ps.length = 1)
    (hbody : ∀ (cdv : Value) (A : Around) (outer : List Env) (s : Shared) (H : Hp) (Q : VK) (a : Addr) (oe : Obj) (cls : Value) (d : Option Addr), L2H.RoomH k ((A.deeper (envOfC x (defScope st) s.heap.objs.size g cdv)).mark (some (.ref a))) → Zc cls d oe → (∃ vs, oe.data = .fields vs) → sp cls d [.ref a] H Q E0 →
      ∃ t, PSs ((cxOf CX0 P w K mg base N x (defScope st) g cdv A outer s H E0).suite a [(a, oe)]) (defBody st) t ∧ t { nx := fun _ H' => Q .non H', rt := Q } (start N [.ref a]) H) : FnE P w K mg base (k + 1) g fd ps sp := by
  obtain ⟨oc, od, kV, doc, pm, an, cdv, ct, osl, rfl, lk, hcd⟩ := F.ex
  refine ⟨one, fun A outer s H Q a oe cls d hr hp hz hf e0 hb hsp => ?_⟩
  have KX : K.In s.heap := e0.mod.kin.keeps fun b o e => (e0.bs b o e).1
  have hkind : ∀ y ∈ ps.zip [Value.ref a], (defScope st).names.lookup y.1 = some .local ∨ ((defScope st).names.lookup y.1 = some .cell ∧ ((cellsFrom (s.heap.objs.size + 1) (defScope st).names []).lookup y.1).isSome = true) := fun ⟨n, v⟩ hy =>
    (S.par n (List.of_mem_zip hy).1).elim .inl fun q => .inr ⟨q, PySem.W.cellsFrom_some _ _ _ (.inl q)⟩
  refine codeAny_call_function hr.depth (KX _ _ lk) rfl S.co S.gen rfl (PySem.W.codeRec_of KX hcd) (hb _ _ _ _ (wpAny_newFunctionEnv_cells S.kind hkind fun env he s1 x1 => ?_))
  subst he
  refine ⟨(e0.mod.nolimit.keeps fun b o e => (e0.bs b o e).1).keeps x1.toInCall.keep, codeAny_func ?_⟩
  obtain ⟨t, ht, hq⟩ := hbody cdv A outer s H Q a oe cls d (hr.deeper _) hz hf hsp
  have I0 := L2H.inv_startH (CX := CX0) (E := E0) (f := g) (cd := cdv) S hp e0 (vs := [.ref a]) (by rw [one]; rfl) (.cons rfl .nil) x1
  have I : Inv ((cxOf CX0 P w K mg base N x (defScope st) g cdv A outer s H E0).suite a [(a, oe)]) [] (start N [.ref a]) H s1 := inv_around I0 (Around.frames_deeper e0.frames)
  refine wpAny_mono (ht.run [] s1 (start N [.ref a]) H _ I hq) (fun fl s' hs => ?_) fun e s' hs => hs.elim
  cases fl with
  | ret u =>
    obtain ⟨v, σ', H', J, rv, q⟩ := hs
    exact ⟨v, H', J.os, J.bare, J.base, J.hok, rv, q⟩
  | next =>
    obtain ⟨σ', H', J, q⟩ := hs
    exact ⟨.non, H', J.os, J.bare, J.base, J.hok, rfl, q⟩
  | brk => exact hs.elim fun _ h => h.elim fun _ h => h.2.elim
  | cont => exact hs.elim fun _ h => h.elim fun _ h => h.2.elim
end
/-- the call, in an except suite -/
def tCallE (i : Nat) (a : Addr) (cls : Value) (d : Option Addr) (sp : Value → Option Addr → Sp) : TE := fun σ H Q => σ[i]? = some (some (.ref a)) ∧ sp cls d [.ref a] H Q E0
section
variable {X : Cx} {a : Addr} {cls : Value} {d : Option Addr} {oe : Obj} {pn : List (Addr × Obj)} {k i : Nat} {x y : Str} {ps : List Str} {sp : Value → Option Addr → Sp} {p1 p2 pos : Pos}
theorem pe_dfnE (D : DfnE X.prog X.w X.K X.mg X.base k x ps sp) (hr : L2H.RoomH k (X.A.mark (some (.ref a)))) (hz : Zc cls d oe) (hf : ∃ vs, oe.data = .fields vs) (hg : Gl X x)
    (hN : X.N[i]? = some y := by rfl) (hv : Vis X.env.scope y := by first | exact Or.inl rfl | exact Or.inr (Or.inl rfl) | exact Or.inr (Or.inr rfl)) (hd : (y == ("__debug__" : Str)) = false := by decide)
    (hcd : (y == ("__classdict__" : Str)) = false := by decide) (hdb : (x == ("__debug__" : Str)) = false := by decide)
    (he : starEach [.Name y p2] X.env = (false, eval (.Name y p2) X.env) :: starEach [] X.env := by rfl) :
    PE (X.suite a ((a, oe) :: pn)) (.Call (.Name x p1) [.Name y p2] [] pos) (tCallE i a cls d sp) := by
  obtain ⟨g, fd, F, hm, hk, hb⟩ := D.ex
  refine ⟨fun pins s σ H Q I h => ?_⟩
  obtain ⟨hs, ht⟩ := h
  refine wpAny_Call_Name_kw (ld_glob I hg hm ?_ hdb)
  refine PySem.W.callWith_K (h₀ := X.base) I.ok.mod.kin hk ?_ he rfl
  rw [he]
  show wpAny _ _ (spliced ((false, eval (.Name y p2) X.env) :: backTo pos (starEach [] X.env))) _ _ _
  refine Calls.spliced_cons (thn ((pe_var (X := X.suite a ((a, oe) :: pn)) (pos := p2) (i := i) hN hv hd hcd).run pins _ σ H (fun v H1 => v = .ref a ∧ H1 = H) I ⟨.ref a, hs, rfl, rfl⟩) fun u s1 ⟨v, H1, I1, r1, ev, eH⟩ => ?_)
  subst ev eH
  cases r1
  refine Calls.spliced_nil ⟨I1.kIn, ?_⟩
  have hl : [Value.ref a].length = ps.length := F.one.symm
  have b := hb s1 [.ref a] I1.kIn (by rw [List.append_nil]; exact hl)
  rw [List.append_nil] at b
  have P1 := I1.pin (a, oe) (List.mem_append_left _ List.mem_cons_self)
  have hpin : L2H.PinOk X.stack H1 s1 (a, oe) := ⟨P1.1, P1.2.1, fun hm => (List.mem_cons.mp (I1.stkSub a hm)).elim P1.2.2.1 P1.2.2.2.1, P1.2.2.2.2⟩
  refine wpAny_call (codeAny_mono (F.run X.A X.stack s1 H1 Q a oe cls d hr hpin hz hf I1.env0 b ht) fun r s' hq => ?_)
  cases r with
  | error e => exact False.elim hq
  | ok fl =>
    cases fl with
    | ret u => exact I1.after hq
    | next => exact False.elim hq
    | brk => exact False.elim hq
    | cont => exact False.elim hq
end
/-- a def whose code object is known -/
theorem okC {P : Program} {w : World} {K : PySem.W.Frag} {mg : Str → Option Value} {base : Heap} {x qual : Str} {st : Stmt} {f c : Addr} {fd : FuncData} {N ps : List Str} {k : Nat} {sp : Sp} (F : Fun K x qual st f fd) (hc : fd.code = .ref c) (S : FnScope N ps (defScope st)) (len : ∀ vs H Q E, sp vs H Q E → vs.length = ps.length)
    (hbody : ∀ (A : Around) (outer : List Env) (s : Shared) (H : Hp) (vs : List V) (Q : VK) (E : XK), Room k (A.deeper (envOfC qual (defScope st) s.heap.objs.size f (.ref c))) → sp vs H Q E →
      ∃ t, PSs (cxOf CX0 P w K mg base N qual (defScope st) f (.ref c) A outer s H E).nox (defBody st) t ∧ t { nx := fun _ H' => Q .non H', rt := Q } (start N vs) H) : FnOk P w K mg base CX0 (k + 1) f fd ps sp := by
  obtain ⟨oc, od, kV, doc, pm, an, cdv, ct, osl, rfl, lk, hcd⟩ := F.ex
  obtain rfl : cdv = .ref c := hc
  refine fn_of lk hcd S len fun A outer s H vs Q E hr hsp => ?_
  obtain ⟨t, h, q⟩ := hbody A outer s H vs Q E hr hsp
  exact ⟨t, h.nox, q⟩
/-! stepping -/
section
variable {K : PySem.W.Frag} {σ : L2.St} {H : Hp} {Q : VK} {i : Nat} {f a : Addr} {tl : XK → Hp → VK → Prop} {W : WX} {spl : (XK → Hp → VK → Prop) → Sp} {t : TA} {cls : Value} {d : Option Addr} {sp : Value → Option Addr → Sp} {te : TE} {n : Str}
theorem i_lamc (h : σ[i]? = some (some (.ref f))) (k : tl (WE W σ) H Q) : tLamC i f tl W σ H Q := ⟨h, k⟩
theorem i_fwd (h : σ[i]? = some (some (.ref f))) (k : t σ H fun vs H1 => spl tl vs H1 Q E0) : tFwd i f spl tl t σ H Q := ⟨h, k⟩
theorem i_callE (h : σ[i]? = some (some (.ref a))) (k : sp cls d [.ref a] H Q E0) : tCallE i a cls d sp σ H Q := ⟨h, k⟩
def gXfA (K : PySem.W.Frag) (a : Addr) (cls : Value) (d : Option Addr) (f : Str) (x : V) (H1 : Hp) (Q : VK) : Prop := ∃ (C dd : Addr) (fs : List (Str × V)) (v : V), x = .ref a ∧ cls = .ref C ∧ XfC K C ∧ PySem.W.findIn K (.ref C) f = some none ∧ d = some dd ∧ H1 dd = some (.xd fs) ∧ fs.lookup f = some v ∧ Q v H1
theorem i_xfA (k : te σ H fun x H1 => gXfA K a cls d n x H1 Q) : tXfA K a cls d n te σ H Q := k
theorem g_xfA {C dd : Addr} {fs : List (Str × V)} {v : V} (T : XfC K C) (hn : PySem.W.findIn K (.ref C) n = some none) (h : H dd = some (.xd fs)) (l : fs.lookup n = some v) (k : Q v H) : gXfA K a (.ref C) (some dd) n (.ref a) H Q := ⟨C, dd, fs, v, rfl, rfl, T, hn, rfl, h, l, k⟩
theorem g_isx {D dd : Addr} {fs : List (Str × V)} {c : V} {cv : Value} {b : Bool} (T : XisC K D) (h : H dd = some (.xd fs)) (hc : ClsV c cv) (e : PySem.W.kitOne K (.ref D) cv = some b) (k : Q (.bl b) H) : rIsX K a (.ref D) (some dd) [.ref a, c] H Q := ⟨D, dd, fs, c, b, rfl, rfl, T, rfl, h, .inl ⟨cv, hc, e⟩, k⟩
theorem g_isxT {D dd tp : Addr} {fs : List (Str × V)} {cs : List V} {us : List Value} {b : Bool} (T : XisC K D) (h : H dd = some (.xd fs)) (ht : H tp = some (.tup cs)) (hc : Paired ClsV cs us) (e : PySem.W.kitAny K (.ref D) us = some b) (k : Q (.bl b) H) : rIsX K a (.ref D) (some dd) [.ref a, .ref tp] H Q := ⟨D, dd, fs, _, b, rfl, rfl, T, rfl, h, .inr ⟨tp, cs, us, rfl, ht, hc, e⟩, k⟩
end
end Eg

set_option Elab.async false
set_option linter.all false
set_option maxRecDepth 100000
set_option maxHeartbeats 4000000
namespace Eg
open PySem PySem.Spec PyProof.Rows L2 Rl SX
theorem bt_ValueError : bootBuiltins "ValueError" = some (.type "ValueError") := by decide +kernel
/-! lists of numbers compared -/
section
variable {K : PySem.W.Frag} {H : Hp} {Q : VK}
theorem dp_ints : ∀ (l : List Int), DpAll K H (l.map V.int) (l.map PyData.int)
  | [] => .nil
  | a :: l => .cons (.int _) (dp_ints l)
theorem can_ints : ∀ (l : List Int), PyData.canLayAll0 (l.map PyData.int) = true
  | [] => rfl
  | a :: l => by
    show (PyData.canLay0 (.int a) && PyData.canLayAll0 (l.map PyData.int)) = true
    rw [can_ints l]
    rfl
theorem dep_ints : ∀ (l : List Int), PyData.depthAll (l.map PyData.int) = 0
  | [] => rfl
  | a :: l => by
    show max (PyData.depth (.int a)) (PyData.depthAll (l.map PyData.int)) = 0
    rw [dep_ints l]
    rfl
theorem sh_ints (l : List Int) : SeqAt.shaped (.list (l.map PyData.int)) = true := by
  show (PyData.canLayAll0 _ && decide (PyData.depthAll _ + 1 ≤ 64)) = true
  rw [can_ints l, dep_ints]
  rfl
theorem eqv_int (a b : Int) : PyData.eqv (.int a) (.int b) = decide (a = b) := by
  simp only [PyData.eqv]
  by_cases h : a = b <;> simp [h]
theorem eqv_ints : ∀ (l m : List Int), PyData.eqvAll (l.map PyData.int) (m.map PyData.int) = decide (l = m)
  | [], [] => by simp [PyData.eqvAll]
  | [], _ :: _ => by simp [PyData.eqvAll]
  | _ :: _, [] => by simp [PyData.eqvAll]
  | a :: l, b :: m => by
    simp only [List.map_cons, PyData.eqvAll, eqv_int, eqv_ints l m]
    by_cases h : a = b <;> by_cases h2 : l = m <;> simp [h, h2]
theorem eqv_intsL (l m : List Int) : PyData.eqv (.list (l.map PyData.int)) (.list (m.map PyData.int)) = decide (l = m) := by
  simp only [PyData.eqv]
  exact eqv_ints l m
theorem g_eqB {a b : Bool} (k : Q (.bl (decide (a = b))) H) : uEq K (.bl a) (.bl b) H Q := by
  refine .inr ⟨.bool a, .bool b, .bl a, .bl b, rfl, rfl, ?_⟩
  have z : PyData.eqv (.bool a) (.bool b) = decide (a = b) := by cases a <;> cases b <;> rfl
  rw [z]
  exact k
theorem g_eqIL {a b : Addr} {l m : List Int} (ha : SqL K H a (l.map V.int)) (hb : SqL K H b (m.map V.int)) (k : Q (.bl (decide (l = m))) H) : uEq K (.ref a) (.ref b) H Q := by
  refine .inr ⟨.list (l.map .int), .list (m.map .int), .lst ha (dp_ints l), .lst hb (dp_ints m), sh_ints l, sh_ints m, ?_⟩
  rw [eqv_intsL]
  exact k
theorem g_neIL {a b : Addr} {l m : List Int} (ha : SqL K H a (l.map V.int)) (hb : SqL K H b (m.map V.int)) (k : Q (.bl (!decide (l = m))) H) : uNe K (.ref a) (.ref b) H Q := by
  refine .inr ⟨.list (l.map .int), .list (m.map .int), .lst ha (dp_ints l), .lst hb (dp_ints m), sh_ints l, sh_ints m, ?_⟩
  rw [eqv_intsL]
  exact k
end
end Eg

set_option Elab.async false
set_option linter.all false
set_option maxRecDepth 100000
set_option maxHeartbeats 4000000
namespace Eg
open PySem PySem.Spec PyProof.Rows L2 Rl SX
section
variable {K : PySem.W.Frag} {σ : L2.St} {H : Hp} {Q : VK} {ta tb : TE}
def gLstRg (x y : V) (H : Hp) (Q : VK) : Prop := ∃ i j, x = .int i ∧ y = .int j ∧ RgOk i j ∧ ∀ q, H q = none → Q (.ref q) (upd H q (.lst (rgV i j)))
theorem i_lstRg2 (k : ta σ H fun x H1 => tb σ H1 fun y H2 => gLstRg x y H2 Q) : tLstRg (tRg2 ta tb) σ H Q := k
theorem g_lstRg {i j : Int} (h : -1000 ≤ i ∧ i ≤ j ∧ j ≤ 100000) (k : ∀ q H', H q = none → Same H H' → H' q = some (.lst ((List.range (j - i).toNat).map fun m => V.int (i + (m : Nat)))) → Q (.ref q) H') : gLstRg (.int i) (.int j) H Q :=
  ⟨i, j, rfl, rfl, ⟨by omega, by omega, by omega, by omega, by omega⟩, fun q hq => k q _ hq (fun b u e => by rw [upd_ne (ne_of_none e hq)]; exact e) upd_same⟩
theorem g_notInL {p : Addr} {a : Int} {xs : List V} (h : SqL K H p xs) (hf : xs.all flatV = true) (k : Q (.bl (!inV (.int a) xs)) H) : uNotIn K (.int a) (.ref p) H Q := .inr ⟨p, xs, rfl, .inl h, rfl, hf, k⟩
theorem g_inL {p : Addr} {a : Int} {xs : List V} (h : SqL K H p xs) (hf : xs.all flatV = true) (k : Q (.bl (inV (.int a) xs)) H) : uIn K (.int a) (.ref p) H Q := .inr ⟨p, xs, rfl, .inl h, rfl, hf, k⟩
theorem pi_listK {X : Cx} {tg e : Expr} {te : TE} (h : X.K = K) (he : PE X e te) : PI X tg e (iList K te) := by subst h; exact pi_list he
theorem g_neB {a b : Bool} (k : Q (.bl (!decide (a = b))) H) : uNe K (.bl a) (.bl b) H Q := by
  refine .inr ⟨.bool a, .bool b, .bl a, .bl b, rfl, rfl, ?_⟩
  have z : PyData.eqv (.bool a) (.bool b) = decide (a = b) := by cases a <;> cases b <;> rfl
  rw [z]
  exact k
def uIsB : R2 := fun x y H Q => ∃ a b, x = .bl a ∧ y = .bl b ∧ Q (.bl (decide (a = b))) H
theorem op_uIsB {X : Cx} : OpR X (compareOp .Is) uIsB := op_is_bl
def uNotB : R2 := fun x y H Q => ∃ a b, x = .bl a ∧ y = .bl b ∧ Q (.bl (!decide (a = b))) H
theorem op_uNotB {X : Cx} : OpR X (compareOp .IsNot) uNotB := op_isnot_bl
theorem g_isB {a b : Bool} (k : Q (.bl (decide (a = b))) H) : uIsB (.bl a) (.bl b) H Q := ⟨a, b, rfl, rfl, k⟩
theorem g_notB {a b : Bool} (k : Q (.bl (!decide (a = b))) H) : uNotB (.bl a) (.bl b) H Q := ⟨a, b, rfl, rfl, k⟩
theorem flat_ints (l : List Int) : (l.map V.int).all flatV = true := by
  rw [List.all_eq_true]
  intro x hx
  obtain ⟨i, _, rfl⟩ := List.mem_map.mp hx
  rfl
end
end Eg

set_option Elab.async false
set_option linter.all false
set_option maxRecDepth 100000
set_option maxHeartbeats 4000000
/-! a lambda kept in a local name, handed to defs by it -/
namespace Eg
open PySem PySem.Spec PyProof.Rows L2 Rl SX
/-- the context with one more pinned object -/
abbrev lamp (X : Cx) (p : Addr × Obj) : Cx := { X with pn := X.pn ++ [p] }
theorem ok_in {X : Cx} {p : Addr × Obj} (o : X.Ok) : (lamp X p).Ok := ⟨o.mod, o.kind, o.glob, o.blt, o.above, o.inj, o.has, o.cab, o.hd, o.frames, o.stk, o.exf, o.bs, o.bsz, o.noex, o.exfs, o.funs, o.frf⟩
theorem ok_out {X : Cx} {p : Addr × Obj} (o : (lamp X p).Ok) : X.Ok := ⟨o.mod, o.kind, o.glob, o.blt, o.above, o.inj, o.has, o.cab, o.hd, o.frames, o.stk, o.exf, o.bs, o.bsz, o.noex, o.exfs, o.funs, o.frf⟩
section
variable {X : Cx} {p : Addr × Obj} {pins : List (Addr × Obj)} {σ : L2.St} {H : Hp} {s : Shared}
theorem inv_in (I : Inv X (p :: pins) σ H s) : Inv (lamp X p) pins σ H s :=
  ⟨ok_in I.ok, I.os, I.bare, I.base, I.loc, I.cell, I.free, I.freeC, fun q hq => I.pin q (by
    have hq : q ∈ (X.pn ++ [p]) ++ pins := hq
    simpa using hq), I.hok, I.len⟩
theorem inv_out (I : Inv (lamp X p) pins σ H s) : Inv X (p :: pins) σ H s :=
  ⟨ok_out I.ok, I.os, I.bare, I.base, I.loc, I.cell, I.free, I.freeC, fun q hq => I.pin q (by
    show q ∈ (X.pn ++ [p]) ++ pins
    simpa using hq), I.hok, I.len⟩
theorem inv_drop (I : Inv (lamp X p) pins σ H s) : Inv X pins σ H s := (inv_out I).pins_of fun q hq => (inv_out I).pin q (List.mem_append_right _ (List.mem_cons_of_mem _ hq))
theorem sp_drop {D : Ends} {f : Flow} {s' : Shared} (h : SP (lamp X p) pins D f s') : SP X pins D f s' := by
  cases f with
  | next => obtain ⟨a, b, I, q⟩ := h; exact ⟨a, b, inv_drop I, q⟩
  | brk => obtain ⟨a, b, I, q⟩ := h; exact ⟨a, b, inv_drop I, q⟩
  | cont => obtain ⟨a, b, I, q⟩ := h; exact ⟨a, b, inv_drop I, q⟩
  | ret u => obtain ⟨v, a, b, I, r, q⟩ := h; exact ⟨v, a, b, inv_drop I, r, q⟩
end
/-- the lambda's object -/
abbrev lamO (X : Cx) (params : Arguments) (body : Expr) (scope : Scope) (pm : Value) (c' : Addr) (ctv : Value) : Obj := PySem.W.kla_obj "<lambda>" (X.env.qual ++ "<lambda>") params body scope (cloFrom X.env.cells scope.names []) pm c' ctv
def tLamS (T : List (Addr × Str)) (q : Str) (i : Nat) (tr : Addr → Addr → TS) : TS := fun D σ H => LamX.Tabs T H ∧ ∀ f c' H1, LamX.ExtN H H1 → LamX.Tabs T H1 → H1 c' = some (LamX.CodeO c' q) → tr f c' D (σ.set i (some (.ref f))) H1
section
variable {X : Cx} {T : List (Addr × Str)} {c P : Addr} {params : Arguments} {body : Expr} {scope : Scope} {lpos pos pos' : Pos} {i : Nat} {x : Str} {rest : List Stmt} {tr : Addr → Addr → TS}
theorem pss_lam (TB : LamX.TabB X.base X.mg c P) (hcode : X.env.code = .ref c) (hmT : (P, X.env.qual ++ "<lambda>") ∈ T) (hu : ∀ p ∈ T, p.1 = P → p.2 = X.env.qual ++ "<lambda>") (L : LamX.LamS X.env.scope scope) (hdef : defaultsOf params X.env = ([], []))
    (hN : X.N.Nodup) (hi : X.N[i]? = some x) (hx : Loc X.env.scope x) (hst : X.stack = X.env :: X.outer) (hfl : X.env.frame = some X.env.locals)
    (hr : ∀ (f c' : Addr) (pm ctv : Value), PSs (lamp X (f, lamO X params body scope pm c' ctv)) rest (tr f c'))
    (hs : swapsWith (.Lambda params body scope lpos) (some (.Name x pos')) pos.line X.env = pure false := by rfl) (hf : X.fn x = true ∨ X.env.scope.names.lookup x = some .local := by first | exact .inl rfl | exact .inr rfl | assumption) :
    PSs X (.Assign [.Name x pos'] (.Lambda params body scope lpos) pos :: rest) (tLamS T (X.env.qual ++ "<lambda>") i tr) := by
  refine ⟨fun pins s σ H D I h => ?_⟩
  obtain ⟨hT, h⟩ := h
  refine wpAny_execs_cons (wpAny_Assign_Name (LamX.lam_make2 I TB hcode hmT hu hT hdef (L.has I.ok) fun f c' pm' ctv H1 s1 I1 eN T1 hf1 hfn hfr hco => ?_) hs)
  rw [hst] at hfr
  have hfr2 : f ∉ X.env.locals :: frs X.outer := by
    have e : frs (X.env :: X.outer) = X.env.locals :: frs X.outer := by
      unfold frs
      rw [List.filterMap_cons, hfl]
    rwa [e] at hfr
  have hnl : f ≠ X.env.locals := fun z => hfr2 (by rw [z]; exact List.mem_cons_self)
  have hnf : f ∉ X.fs := fun z => hfr2 (List.mem_cons_of_mem _ z)
  have J1 : Inv X ((f, lamO X params body scope pm' c' ctv) :: pins) σ H1 s1 := I1.pins_of fun p hp => by
    rcases List.mem_cons.mp hp with z | z
    · rw [z]
      exact ⟨hf1, hfn, hnl, hnf, fun v z => nomatch z⟩
    · exact I1.pin p (List.mem_append_right _ z)
  refine store_ok J1 hN hi hx (v := .ref f) rfl (fun s2 J2 => ?_) hf
  exact thn ((hr f c' pm' ctv).run pins s2 _ H1 D (inv_in J2) (h f c' H1 eN T1 hco)) fun fl s3 q => sp_drop q
end
/-! the def called with it -/
def tFwdP (i : Nat) (f c' : Addr) (q : Str) (sp : (XK → Hp → VK → Prop) → Sp) (tb : XK → TE) (t : TA) : TE := fun σ H Q => σ[i]? = some (some (.ref f)) ∧ t σ H fun vs H1 => sp (fun E HZ Q' => HZ c' = some (LamX.CodeO c' q) ∧ tb E σ HZ Q') vs H1 Q E0
section
variable {X : Cx} {k kl i : Nat} {f c' : Addr} {a x : Str} {p1 p2 pos : Pos} {ps : List Str} {sp : (XK → Hp → VK → Prop) → Sp} {es : List Expr} {t : TA} {params : Arguments} {body : Expr} {scope : Scope} {pm ctv : Value} {tb : XK → TE}
theorem pe_fwdP (D : DfnL X.prog X.w X.K X.mg X.base k (kl + 1) x ps sp) (hr : Room k X.A) (hg : Gl X x) (L : LamX.LamS X.env.scope scope)
    (hbind : ∀ (q : Str) (cl : List (Str × Addr)) (pm cv ctv : Value), bindArgs (PySem.W.kla_fn "<lambda>" q params body scope cl pm cv ctv) ⟨[], []⟩ = pure [])
    (hbody : ∀ (A : Around) (outer : List Env) (s : Shared) (H : Hp) (E : XK) (f c' : Addr), Room kl (A.deeper (LamX.lamEnv X scope s.heap.objs.size f c')) → PE (LamX.lamCx X A outer s H E scope f c') body (tb E))
    (hst : X.stack = X.env :: X.outer) (hfl : X.env.frame = some X.env.locals)
    (ha : PA (lamp X (f, lamO X params body scope pm c' ctv)) es t)
    (hN : X.N[i]? = some a := by rfl) (hv : Vis X.env.scope a := by first | exact Or.inl rfl | exact Or.inr (Or.inl rfl) | exact Or.inr (Or.inr rfl)) (hd : (a == ("__debug__" : Str)) = false := by decide)
    (hcd : (a == ("__classdict__" : Str)) = false := by decide) (hdb : (x == ("__debug__" : Str)) = false := by decide)
    (he : starEach (.Name a p2 :: es) X.env = (false, eval (.Name a p2) X.env) :: starEach es X.env := by rfl) (hpl : (backTo pos (starEach es X.env)).any (·.1) = false := by rfl) :
    PE (lamp X (f, lamO X params body scope pm c' ctv)) (.Call (.Name x p1) (.Name a p2 :: es) [] pos) (tFwdP i f c' (X.env.qual ++ "<lambda>") sp tb t) := by
  obtain ⟨g, fd, F, hm, hk, hb⟩ := D.ex
  refine ⟨fun pins s σ H Q I h => ?_⟩
  obtain ⟨hs, ht⟩ := h
  refine wpAny_Call_Name_kw (ld_glob (X := X) (inv_drop I) hg hm ?_ hdb)
  refine PySem.W.callWith_K (h₀ := X.base) I.ok.mod.kin hk ?_ he hpl
  rw [he]
  show wpAny _ _ (spliced ((false, eval (.Name a p2) X.env) :: backTo pos (starEach es X.env))) _ _ _
  refine Calls.spliced_cons (thn ((pe_var (X := lamp X (f, lamO X params body scope pm c' ctv)) (pos := p2) (i := i) hN hv hd hcd).run pins _ σ H (fun v H1 => v = .ref f ∧ H1 = H) I ⟨.ref f, hs, rfl, rfl⟩) fun u s1 ⟨v, H1, I1, r1, ev, eH⟩ => ?_)
  subst ev eH
  cases r1
  refine thn (ha.run pos pins s1 σ H1 _ I1 ht) fun us s2 ⟨vs, H2, J2, r, q⟩ => ⟨J2.kIn, ?_⟩
  have I2 : Inv X ((f, lamO X params body scope pm c' ctv) :: pins) σ H2 s2 := inv_out J2
  obtain ⟨hf2, hn2, hnl, hnf, _⟩ := I2.pin (f, lamO X params body scope pm c' ctv) (List.mem_append_right _ List.mem_cons_self)
  have hfr : f ∉ frs X.stack := by
    rw [hst]
    have e : frs (X.env :: X.outer) = X.env.locals :: frs X.outer := by
      unfold frs
      rw [List.filterMap_cons, hfl]
    rw [e]
    exact fun z => (List.mem_cons.mp z).elim hnl hnf
  have hL : LamV X.prog X.w X.K X.mg X.base (kl + 1) (frs X.stack) f H2 s2.heap (fun E HZ Q' => HZ c' = some (LamX.CodeO c' (X.env.qual ++ "<lambda>")) ∧ tb E σ HZ Q') := by
    refine ⟨⟨_, _, _, _, _, _, _, _, hf2⟩, hn2, hfr, fun A outer s HZ Q' E hr' e0 u hcz => ?_⟩
    obtain ⟨hcz, ht⟩ := hcz
    have u0 := u
    obtain ⟨⟨oc, us', t', hoc, hdc, hvc⟩, _, _⟩ := e0.hok c' _ hcz
    have of1 : s.heap.get? f = some (lamO X params body scope pm c' ctv) := u.keep f _ hf2 hn2 hfr (by simp)
    refine PySem.W.kla_callFunE hr'.depth of1 rfl L.co L.gen rfl ⟨c', oc, us', t', rfl, hoc, hdc, hvc⟩ ?_
    rw [hbind]
    have hnl' : s.heap.NoLimit := e0.mod.nolimit.keeps fun b o e => (e0.bs b o e).1
    refine wpAny_pure (wpAny_newFunctionEnv (fun y hy => (L.own y hy).2) (fun y hy => absurd hy (by simp)) (fun h₁ hns hsb => ⟨hnl'.fresh _ hsb, ?_⟩) L.kind)
    have kp : ∀ b o, s.heap.get? b = some o → h₁.get? b = some o := fun b o e => hsb.extBut b o (Nat.ne_of_lt (Heap.lt_size e)) (Heap.get?_push_of_some _ e)
    have J := LamX.lam_start2 (E := E) (f := f) (c' := c') (tk := s.toks + ([] : List (Str × Value)).length) I2 L e0 hr'.hd u0 hns kp
    refine PySem.W.kla_codeExpr (wpAny_mono ((hbody A outer s HZ E f c' (hr'.deeper _)).run [] _ _ HZ Q' J ht) (fun v s' hq => ?_) fun e s' hq => hq)
    obtain ⟨w', H', J', rv, q⟩ := hq
    exact ⟨w', H', J'.os, J'.bare, J'.base, J'.hok, rv, q⟩
  refine thn (run_fnL (X := X) F hr hb I2 r hL q) fun u' s' hq => ?_
  obtain ⟨v, H3, I3, rv, q3⟩ := hq
  exact ⟨v, H3, inv_in I3, rv, q3⟩
end
section
variable {T : List (Addr × Str)} {q : Str} {i : Nat} {f c' : Addr} {tr : Addr → Addr → TS} {D : Ends} {σ : L2.St} {H : Hp} {Q : VK} {spl : (XK → Hp → VK → Prop) → Sp} {tb : XK → TE} {t : TA}
theorem i_lamS (hT : LamX.Tabs T H) (k : ∀ f c' H1, LamX.ExtN H H1 → LamX.Tabs T H1 → H1 c' = some (LamX.CodeO c' q) → tr f c' D (σ.set i (some (.ref f))) H1) : tLamS T q i tr D σ H := ⟨hT, k⟩
theorem i_fwdP (h : σ[i]? = some (some (.ref f))) (k : t σ H fun vs H1 => spl (fun E HZ Q' => HZ c' = some (LamX.CodeO c' q) ∧ tb E σ HZ Q') vs H1 Q E0) : tFwdP i f c' q spl tb t σ H Q := ⟨h, k⟩
end
end Eg

set_option Elab.async false
set_option linter.all false
set_option maxRecDepth 100000
set_option maxHeartbeats 4000000
/-! comprehensions with a test; lists counted, popped, repeated -/
namespace Eg
open PySem PySem.Spec PyProof.Rows L2 Rl SX
section
variable {K : PySem.W.Frag} {σ : L2.St} {H : Hp} {te : TE} {tt : TT} {Q : VK} {g : TG} {J : It} {n : Nat} {vs : List Nat}
theorem l_itF {G : Hp → Prop} {Y : Nat → Hp → V → Hp → Prop} (w : Walk J n G Y) (Pv : Addr → Nat → List V → Hp → Prop) (h0 : ∀ D, H D = none → Pv D 0 [] (upd H D (.lst []))) (hG : ∀ D i acc H', H D = none → i ≤ n → H' D = some (.lst acc) → Pv D i acc H' → G H')
    (hs : ∀ D i x acc H1 H', H D = none → i < n → H1 D = some (.lst acc) → Pv D i acc H1 → Y i H1 x H' → g x (wipe σ vs) H' fun σ2 H2 => wipe σ2 vs = wipe σ vs ∧ tt σ2 H2 fun b H3 =>
      if b = true then te σ2 H3 (fun y H4 => ∃ acc, H4 D = some (.lst acc) ∧ acc.length < sizeLine ∧ Pv D (i + 1) (acc ++ [y]) (upd H4 D (.lst (acc ++ [y])))) else ∃ acc, H3 D = some (.lst acc) ∧ Pv D (i + 1) acc H3)
    (hd : ∀ D acc H', H D = none → H' D = some (.lst acc) → Pv D n acc H' → Q (.ref D) H') : gLc J g tt te vs σ H Q := fun D hD => by
  -- the turns' own promises hold by weakening what stands behind them
  exact lc_it w (fun i H' => ∃ acc, H' D = some (.lst acc) ∧ Pv D i acc H') ⟨[], upd_same, h0 D hD⟩ (fun i H' hi ⟨acc, e, p⟩ => hG D i acc H' hD hi e p)
    (fun i x H1 H' hi ⟨acc, e, p⟩ y => by
      have h := hs D i x acc H1 H' hD hi e p y
      have ee : (fun (y : V) (H4 : Hp) => ∃ acc, H4 D = some (.lst acc) ∧ acc.length < sizeLine ∧ Pv D (i + 1) (acc ++ [y]) (upd H4 D (.lst (acc ++ [y])))) = fun (y : V) (H4 : Hp) => ∃ acc, H4 D = some (.lst acc) ∧ acc.length < sizeLine ∧ ∃ acc', (upd H4 D (.lst (acc ++ [y]))) D = some (.lst acc') ∧ Pv D (i + 1) acc' (upd H4 D (.lst (acc ++ [y]))) := by
        funext y H4
        refine propext ⟨fun ⟨acc, a, b, c⟩ => ⟨acc, a, b, _, upd_same, c⟩, fun ⟨acc, a, b, acc', c, d⟩ => ⟨acc, a, b, ?_⟩⟩
        rw [upd_same] at c
        cases c
        exact d
      rw [ee] at h
      exact h) (fun H' ⟨acc, e, p⟩ => hd D acc H' hD e p)
theorem g_countI {p : Addr} {ns : List Int} {k : Int} (h : SqL K H p (ns.map V.int)) (q : Q (.int (ns.count k : Nat)) H) : rCntI K (.ref p) [.int k] H Q := ⟨p, ns, k, rfl, rfl, h, q⟩
theorem g_allB {p : Addr} {bs : List Bool} (h : SqL K H p (bs.map V.bl)) (q : Q (.bl (bs.all id)) H) : rAll K [.ref p] H Q := ⟨p, bs, rfl, h, q⟩
theorem g_rep {p : Addr} {k : Nat} {xs : List V} (h : H p = some (.lst xs)) (hk : k < 2 ^ 62) (hz : xs.length * k ≤ sizeLine) (q : ∀ r H', H r = none → Same H H' → H' r = some (.lst (List.replicate k xs).flatten) → Q (.ref r) H') : rRep (.ref p) (.int (k : Int)) H Q :=
  ⟨p, k, xs, rfl, rfl, h, by omega, by omega, by rw [Int.toNat_natCast]; exact hz, fun r hr => q r _ hr (fun b u e => by rw [upd_ne (ne_of_none e hr)]; exact e) (by rw [Int.toNat_natCast]; exact upd_same)⟩
theorem g_minI {p : Addr} {ns : List Int} (h : SqL K H p (ns.map V.int)) (h0 : 0 < ns.length) (q : ∀ m, m ∈ ns → (∀ y, y ∈ ns → m ≤ y) → Q (.int m) H) : rMin K [.ref p] H Q := ⟨p, ns, rfl, h, h0, q⟩
theorem g_maxI {p : Addr} {ns : List Int} (h : SqL K H p (ns.map V.int)) (h0 : 0 < ns.length) (q : ∀ m, m ∈ ns → (∀ y, y ∈ ns → y ≤ m) → Q (.int m) H) : rMax K [.ref p] H Q := ⟨p, ns, rfl, h, h0, q⟩
end
end Eg

set_option Elab.async false
set_option linter.all false
set_option maxRecDepth 100000
set_option maxHeartbeats 4000000
/-! a method of a built-in type in a comprehension -/
namespace Eg
open PySem PySem.Spec PyProof.Rows L2 Rl SX
section
variable {X : Cx} {K : PySem.W.Frag} {o e : Expr} {es : List Expr} {to : TE} {t : TA} {name : Str} {apos cpos : Pos} {T id : String} {r : V → List V → Hp → VK → Prop}
theorem pe_bmX (hK : X.K = K) (pa : PlainAttrs T) (slot : Slot T name id) (hty : typeOf (.builtin id) = pure (.type "method_descriptor")) (hm : MtR X id r) (ho : PE X o to) (ha : PA X (e :: es) t)
    (hbase : attributeBase o name X.env (eval o X.env) = eval o X.env := by rfl)
    (hfew : ((backTo cpos (starEach (e :: es) X.env)).all (fun x => !x.1) && (backToKw cpos (keywordEach [] X.env)).all (fun x => x.1.isSome)
      && decide ((e :: es).length + ([] : List Keyword).length + (if ([] : List Keyword).isEmpty then 0 else 1) < 30)) = true := by rfl)
    (hline : (apos.endLine == cpos.line) = true := by rfl) (hs : starEach (e :: es) X.env = (false, eval e X.env) :: starEach es X.env := by rfl) (hplain : (backTo cpos (starEach es X.env)).any (·.1) = false := by rfl) :
    PE X (.Call (.Attribute o name apos) (e :: es) [] cpos) (tBM K T r to t) := by
  subst hK
  exact pe_bm pa slot hty hm ho ha hbase hfew hline hs hplain
def tIfT (t : TT) (ta tb : TT) : TT := fun σ H Q => t σ H fun c H1 => if c = true then ta σ H1 Q else tb σ H1 Q
theorem i_ifT {t ta tb : TT} {σ : L2.St} {H : Hp} {Q : Bool → Hp → Prop} (h : t σ H fun c H1 => if c = true then ta σ H1 Q else tb σ H1 Q) : tIfT t ta tb σ H Q := h
theorem pt_ifExp {tc ta tb : TT} {c a b : Expr} {pos : Pos} (hc : PT X c tc) (ha : PT X a ta) (hb : PT X b tb) : PT X (.IfExp c a b pos) (tIfT tc ta tb) := by
  refine ⟨fun pins s σ H Q I h => ?_⟩
  show wpAny _ _ (do if ← isTrue c X.env (eval c X.env) then isTrue a X.env (eval a X.env) else isTrue b X.env (eval b X.env)) _ _ s
  refine wpAny_bind (wpAny_mono (hc.run pins s σ H _ I h) (fun d s1 ⟨H1, I1, q1⟩ => ?_) fun _ _ x => x)
  cases d with
  | true => exact ha.run pins s1 σ H1 Q I1 q1
  | false => exact hb.run pins s1 σ H1 Q I1 q1
end
end Eg

set_option Elab.async false
set_option linter.all false
set_option maxRecDepth 100000
set_option maxHeartbeats 4000000
/-! lists of lists of numbers compared; a number's place in a list -/
namespace Eg
open PySem PySem.Spec PyProof.Rows L2 Rl SX
section
variable {K : PySem.W.Frag} {H : Hp} {Q : VK}
abbrev dL (l : List Int) : PyData := .list (l.map PyData.int)
theorem dp_lists : ∀ (rs : List Addr) (ls : List (List Int)), rs.length = ls.length → (∀ (i : Nat) (r : Addr) (l : List Int), rs[i]? = some r → ls[i]? = some l → SqL K H r (l.map V.int)) → DpAll K H (rs.map V.ref) (ls.map dL)
  | [], [], _, _ => .nil
  | [], _ :: _, h, _ => nomatch h
  | _ :: _, [], h, _ => nomatch h
  | r :: rs, l :: ls, h, k => .cons (.lst (k 0 r l rfl rfl) (dp_ints l)) (dp_lists rs ls (Nat.succ.inj h) fun i r' l' h1 h2 => k (i + 1) r' l' h1 h2)
theorem can_lists : ∀ (ls : List (List Int)), PyData.canLayAll0 (ls.map dL) = true
  | [] => rfl
  | l :: ls => by
    show (PyData.canLayAll0 (l.map PyData.int) && PyData.canLayAll0 (ls.map dL)) = true
    rw [can_lists ls, can_ints l]
    rfl
theorem dep_lists : ∀ (ls : List (List Int)), PyData.depthAll (ls.map dL) ≤ 1
  | [] => Nat.zero_le 1
  | l :: ls => by
    show max (PyData.depthAll (l.map PyData.int) + 1) (PyData.depthAll (ls.map dL)) ≤ 1
    have := dep_lists ls
    rw [dep_ints l]
    omega
theorem sh_lists (ls : List (List Int)) : SeqAt.shaped (.list (ls.map dL)) = true := by
  show (PyData.canLayAll0 _ && decide (PyData.depthAll _ + 1 ≤ 64)) = true
  rw [can_lists ls, decide_eq_true (show PyData.depthAll (ls.map dL) + 1 ≤ 64 by have := dep_lists ls; omega)]
  rfl
theorem eqv_lists : ∀ (ls ms : List (List Int)), PyData.eqvAll (ls.map dL) (ms.map dL) = decide (ls = ms)
  | [], [] => by simp [PyData.eqvAll]
  | [], _ :: _ => by simp [PyData.eqvAll]
  | _ :: _, [] => by simp [PyData.eqvAll]
  | a :: l, b :: m => by
    simp only [List.map_cons, PyData.eqvAll, eqv_intsL, eqv_lists l m]
    by_cases h : a = b <;> by_cases h2 : l = m <;> simp [h, h2]
theorem eqv_listsL (ls ms : List (List Int)) : PyData.eqv (.list (ls.map dL)) (.list (ms.map dL)) = decide (ls = ms) := by
  simp only [PyData.eqv]
  exact eqv_lists ls ms
theorem g_neLL {a b : Addr} {rs qs : List Addr} {ls ms : List (List Int)} (ha : SqL K H a (rs.map V.ref)) (hb : SqL K H b (qs.map V.ref)) (h1 : rs.length = ls.length) (h2 : qs.length = ms.length) (k1 : ∀ (i : Nat) (r : Addr) (l : List Int), rs[i]? = some r → ls[i]? = some l → SqL K H r (l.map V.int)) (k2 : ∀ (i : Nat) (r : Addr) (l : List Int), qs[i]? = some r → ms[i]? = some l → SqL K H r (l.map V.int)) (k : Q (.bl (!decide (ls = ms))) H) : uNe K (.ref a) (.ref b) H Q := by
  refine .inr ⟨.list (ls.map dL), .list (ms.map dL), .lst ha (dp_lists rs ls h1 k1), .lst hb (dp_lists qs ms h2 k2), sh_lists ls, sh_lists ms, ?_⟩
  rw [eqv_listsL]
  exact k
theorem g_eqLL {a b : Addr} {rs qs : List Addr} {ls ms : List (List Int)} (ha : SqL K H a (rs.map V.ref)) (hb : SqL K H b (qs.map V.ref)) (h1 : rs.length = ls.length) (h2 : qs.length = ms.length) (k1 : ∀ (i : Nat) (r : Addr) (l : List Int), rs[i]? = some r → ls[i]? = some l → SqL K H r (l.map V.int)) (k2 : ∀ (i : Nat) (r : Addr) (l : List Int), qs[i]? = some r → ms[i]? = some l → SqL K H r (l.map V.int)) (k : Q (.bl (decide (ls = ms))) H) : uEq K (.ref a) (.ref b) H Q := by
  refine .inr ⟨.list (ls.map dL), .list (ms.map dL), .lst ha (dp_lists rs ls h1 k1), .lst hb (dp_lists qs ms h2 k2), sh_lists ls, sh_lists ms, ?_⟩
  rw [eqv_listsL]
  exact k
theorem least_at : ∀ (ns : List Int) {x : Int}, x ∈ ns → ∃ j : Nat, ns[j]? = some x ∧ ∀ (m : Nat) (z : Int), m < j → ns[m]? = some z → z ≠ x
  | [], _, h => nomatch h
  | a :: ns, x, h => by
    by_cases e : a = x
    · exact ⟨0, by rw [e]; rfl, fun m z hm => by omega⟩
    · rcases List.mem_cons.mp h with h | h
      · exact absurd h.symm e
      · obtain ⟨j, h1, h2⟩ := least_at ns h
        refine ⟨j + 1, h1, fun m z hm hz => ?_⟩
        cases m with
        | zero => cases hz; exact e
        | succ m => exact h2 m z (by omega) hz
/-- the first place of a number that is there -/
theorem g_index {p : Addr} {ns : List Int} {x : Int} (h : SqL K H p (ns.map V.int)) (hx : x ∈ ns) (k : ∀ j : Nat, ns[j]? = some x → Q (.int (j : Int)) H) : rIndex K (.ref p) [.int x] H Q := by
  obtain ⟨j, h1, h2⟩ := least_at ns hx
  refine ⟨p, _, .int x, j, .int x, rfl, rfl, h, rfl, flat_ints ns, by rw [List.getElem?_map, h1]; rfl, by unfold eqV; exact decide_eq_true rfl, fun m z' hm hz => ?_, k j h1⟩
  rw [List.getElem?_map] at hz
  obtain ⟨z, hz1, rfl⟩ := Option.map_eq_some_iff.mp hz
  unfold eqV
  exact decide_eq_false (h2 m z hm hz1)
end
end Eg

set_option Elab.async false
set_option linter.all false
set_option maxRecDepth 100000
set_option maxHeartbeats 4000000
namespace L29
open PySem PySem.Spec PyProof.Rows L2 Rl Eg
def top (i : Nat) : Stmt := PySem.Challenge.pw_whoeverwins_k29_rounds_with_late_news.main.body.getD i (.Pass ⟨0, 0, 0, 0⟩)
abbrev st_TooMany_init : Stmt := inClass (top 3) 0
abbrev n_TooMany_init : List Str := ["self", "what"]
theorem sc_TooMany_init : FnScope n_TooMany_init ["self", "what"] (defScope st_TooMany_init) := ⟨rfl, rfl, rfl, by decide +kernel, rfl, by decide +kernel, by decide +kernel⟩
abbrev st_BadLadder_init : Stmt := inClass (top 6) 0
abbrev n_BadLadder_init : List Str := ["self", "rung"]
theorem sc_BadLadder_init : FnScope n_BadLadder_init ["self", "rung"] (defScope st_BadLadder_init) := ⟨rfl, rfl, rfl, by decide +kernel, rfl, by decide +kernel, by decide +kernel⟩
abbrev st_BadTable_init : Stmt := inClass (top 7) 0
abbrev n_BadTable_init : List Str := ["self", "rung"]
theorem sc_BadTable_init : FnScope n_BadTable_init ["self", "rung"] (defScope st_BadTable_init) := ⟨rfl, rfl, rfl, by decide +kernel, rfl, by decide +kernel, by decide +kernel⟩
abbrev st_BadDemand_init : Stmt := inClass (top 8) 0
abbrev n_BadDemand_init : List Str := ["self", "what"]
theorem sc_BadDemand_init : FnScope n_BadDemand_init ["self", "what"] (defScope st_BadDemand_init) := ⟨rfl, rfl, rfl, by decide +kernel, rfl, by decide +kernel, by decide +kernel⟩
abbrev st_bound : Stmt := top 18
abbrev n_bound : List Str := ["what", "number"]
theorem sc_bound : FnScope n_bound ["what", "number"] (defScope st_bound) := ⟨rfl, rfl, rfl, by decide +kernel, rfl, by decide +kernel, by decide +kernel⟩
abbrev st_next_row : Stmt := top 20
abbrev n_next_row : List Str := ["table", "known", "ladder", "lanes", "falls", "come", "rung", "meetings", "many"]
theorem sc_next_row : FnScope n_next_row ["table", "known"] (defScope st_next_row) := ⟨rfl, rfl, rfl, by decide +kernel, rfl, by decide +kernel, by decide +kernel⟩
abbrev st_grow : Stmt := top 21
abbrev n_grow : List Str := ["table", "rows", "late", "at"]
theorem sc_grow : FnScope n_grow ["table", "rows", "late"] (defScope st_grow) := ⟨rfl, rfl, rfl, by decide +kernel, rfl, by decide +kernel, by decide +kernel⟩
abbrev st_round_rows : Stmt := top 22
abbrev n_round_rows : List Str := ["table", "rounds", "late", "rows", "_"]
theorem sc_round_rows : FnScope n_round_rows ["table", "rounds", "late"] (defScope st_round_rows) := ⟨rfl, rfl, rfl, by decide +kernel, rfl, by decide +kernel, by decide +kernel⟩
abbrev st_crown_round : Stmt := top 23
abbrev n_crown_round : List Str := ["table", "crowns", "late", "rows", "number", "still", "_"]
theorem sc_crown_round : FnScope n_crown_round ["table", "crowns", "late"] (defScope st_crown_round) := ⟨rfl, rfl, rfl, by decide +kernel, rfl, by decide +kernel, by decide +kernel⟩
abbrev st_grown : Stmt := top 26
abbrev n_grown : List Str := ["lanes", "falls", "first", "charges", "row", "rung", "fall", "low"]
theorem sc_grown : FnScope n_grown ["lanes", "falls", "first", "charges"] (defScope st_grown) := ⟨rfl, rfl, rfl, by decide +kernel, rfl, by decide +kernel, by decide +kernel⟩
abbrev st_load_rows : Stmt := top 27
abbrev n_load_rows : List Str := ["lanes", "falls", "rungs", "a", "b"]
theorem sc_load_rows : FnScope n_load_rows ["lanes", "falls"] (defScope st_load_rows) := ⟨rfl, rfl, rfl, by decide +kernel, rfl, by decide +kernel, by decide +kernel⟩
abbrev st_head_row : Stmt := top 28
abbrev n_head_row : List Str := ["lanes", "falls", "_"]
theorem sc_head_row : FnScope n_head_row ["lanes", "falls"] (defScope st_head_row) := ⟨rfl, rfl, rfl, by decide +kernel, rfl, by decide +kernel, by decide +kernel⟩
abbrev st_worth_row : Stmt := top 29
abbrev n_worth_row : List Str := ["lanes", "falls", "_"]
theorem sc_worth_row : FnScope n_worth_row ["lanes", "falls"] (defScope st_worth_row) := ⟨rfl, rfl, rfl, by decide +kernel, rfl, by decide +kernel, by decide +kernel⟩
abbrev st_wrong_rung : Stmt := top 31
abbrev n_wrong_rung : List Str := ["lanes", "falls", "rung", "fall", "highest"]
theorem sc_wrong_rung : FnScope n_wrong_rung ["lanes", "falls"] (defScope st_wrong_rung) := ⟨rfl, rfl, rfl, by decide +kernel, rfl, by decide +kernel, by decide +kernel⟩
abbrev st_Ladder_init : Stmt := inClass (top 32) 0
abbrev n_Ladder_init : List Str := ["self", "lanes", "falls", "returns", "wrong"]
theorem sc_Ladder_init : FnScope n_Ladder_init ["self", "lanes", "falls", "returns"] (defScope st_Ladder_init) := ⟨rfl, rfl, rfl, by decide +kernel, rfl, by decide +kernel, by decide +kernel⟩
abbrev st_Ladder_lanes : Stmt := inClass (top 32) 2
abbrev n_Ladder_lanes : List Str := ["self"]
theorem sc_Ladder_lanes : FnScope n_Ladder_lanes ["self"] (defScope st_Ladder_lanes) := ⟨rfl, rfl, rfl, by decide +kernel, rfl, by decide +kernel, by decide +kernel⟩
abbrev st_Ladder_rungs : Stmt := inClass (top 32) 3
abbrev n_Ladder_rungs : List Str := ["self"]
theorem sc_Ladder_rungs : FnScope n_Ladder_rungs ["self"] (defScope st_Ladder_rungs) := ⟨rfl, rfl, rfl, by decide +kernel, rfl, by decide +kernel, by decide +kernel⟩
abbrev st_Ladder_falls : Stmt := inClass (top 32) 4
abbrev n_Ladder_falls : List Str := ["self"]
theorem sc_Ladder_falls : FnScope n_Ladder_falls ["self"] (defScope st_Ladder_falls) := ⟨rfl, rfl, rfl, by decide +kernel, rfl, by decide +kernel, by decide +kernel⟩
abbrev st_Ladder_returns : Stmt := inClass (top 32) 5
abbrev n_Ladder_returns : List Str := ["self"]
theorem sc_Ladder_returns : FnScope n_Ladder_returns ["self"] (defScope st_Ladder_returns) := ⟨rfl, rfl, rfl, by decide +kernel, rfl, by decide +kernel, by decide +kernel⟩
abbrev st_wrong_count : Stmt := top 34
abbrev n_wrong_count : List Str := ["counts", "rungs", "rung", "many"]
theorem sc_wrong_count : FnScope n_wrong_count ["counts", "rungs"] (defScope st_wrong_count) := ⟨rfl, rfl, rfl, by decide +kernel, rfl, by decide +kernel, by decide +kernel⟩
abbrev st_Table_init : Stmt := inClass (top 35) 0
abbrev n_Table_init : List Str := ["self", "ladder", "counts", "wrong"]
theorem sc_Table_init : FnScope n_Table_init ["self", "ladder", "counts"] (defScope st_Table_init) := ⟨rfl, rfl, rfl, by decide +kernel, rfl, by decide +kernel, by decide +kernel⟩
abbrev st_Table_ladder : Stmt := inClass (top 35) 2
abbrev n_Table_ladder : List Str := ["self"]
theorem sc_Table_ladder : FnScope n_Table_ladder ["self"] (defScope st_Table_ladder) := ⟨rfl, rfl, rfl, by decide +kernel, rfl, by decide +kernel, by decide +kernel⟩
abbrev st_Table_counts : Stmt := inClass (top 35) 3
abbrev n_Table_counts : List Str := ["self"]
theorem sc_Table_counts : FnScope n_Table_counts ["self"] (defScope st_Table_counts) := ⟨rfl, rfl, rfl, by decide +kernel, rfl, by decide +kernel, by decide +kernel⟩
abbrev st_law_e_named : Stmt := top 37
abbrev n_law_e_named : List Str := ["raised", "found"]
theorem sc_law_e_named : FnScope n_law_e_named ["raised"] (defScope st_law_e_named) := ⟨rfl, rfl, rfl, by decide +kernel, rfl, by decide +kernel, by decide +kernel⟩
abbrev st_law_e_asked : Stmt := top 38
abbrev n_law_e_asked : List Str := ["call", "told", "raised"]
theorem sc_law_e_asked : FnScope n_law_e_asked ["call"] (defScope st_law_e_asked) := ⟨rfl, rfl, rfl, by decide +kernel, rfl, by decide +kernel, by decide +kernel⟩
abbrev st_law_e_refused : Stmt := top 39
abbrev n_law_e_refused : List Str := ["call", "due", "told"]
theorem sc_law_e_refused : FnScope n_law_e_refused ["call", "due"] (defScope st_law_e_refused) := ⟨rfl, rfl, rfl, by decide +kernel, rfl, by decide +kernel, by decide +kernel⟩
abbrev st_law_e_falls : Stmt := top 40
abbrev n_law_e_falls : List Str := ["stock", "rungs", "kind", "falls", "rung"]
theorem sc_law_e_falls : FnScope n_law_e_falls ["stock", "rungs"] (defScope st_law_e_falls) := ⟨rfl, rfl, rfl, by decide +kernel, rfl, by decide +kernel, by decide +kernel⟩
abbrev st_law_e_ladder : Stmt := top 41
abbrev n_law_e_ladder : List Str := ["stock", "least", "most", "widest", "rungs", "lanes"]
theorem sc_law_e_ladder : FnScope n_law_e_ladder ["stock", "least", "most", "widest"] (defScope st_law_e_ladder) := ⟨rfl, rfl, rfl, by decide +kernel, rfl, by decide +kernel, by decide +kernel⟩
abbrev st_law_stock : Stmt := top 42
abbrev n_law_stock : List Str := ["script", "at", "cell", "size", "small", "one"]
theorem sc_law_stock : FnScope n_law_stock ["script", "at"] (defScope st_law_stock) := ⟨rfl, rfl, rfl, by decide +kernel, rfl, by decide +kernel, by decide +kernel⟩
abbrev st_law_draw : Stmt := top 43
abbrev n_law_draw : List Str := ["stock", "many", "found"]
theorem sc_law_draw : FnScope n_law_draw ["stock", "many"] (defScope st_law_draw) := ⟨rfl, rfl, rfl, by decide +kernel, rfl, by decide +kernel, by decide +kernel⟩
abbrev st_law_matches : Stmt := top 44
abbrev n_law_matches : List Str := ["answer", "due", "at"]
theorem sc_law_matches : FnScope n_law_matches ["answer", "due"] (defScope st_law_matches) := ⟨rfl, rfl, rfl, by decide +kernel, rfl, by decide +kernel, by decide +kernel⟩
abbrev st_law_k29_step : Stmt := top 45
abbrev n_law_k29_step : List Str := ["plain", "counts", "known", "lanes", "falls", "returns", "top", "found", "a", "come", "e"]
theorem sc_law_k29_step : FnScope n_law_k29_step ["plain", "counts", "known"] (defScope st_law_k29_step) := ⟨rfl, rfl, rfl, by decide +kernel, rfl, by decide +kernel, by decide +kernel⟩
abbrev st_law_k29_rows : Stmt := top 46
abbrev n_law_k29_rows : List Str := ["plain", "counts", "rounds", "late", "rows", "number", "a"]
theorem sc_law_k29_rows : FnScope n_law_k29_rows ["plain", "counts", "rounds", "late"] (defScope st_law_k29_rows) := ⟨rfl, rfl, rfl, by decide +kernel, rfl, by decide +kernel, by decide +kernel⟩
abbrev st_law_k29_round : Stmt := top 47
abbrev n_law_k29_round : List Str := ["stock", "plain", "players", "number", "late", "held", "a", "free", "winner", "at", "one", "goes"]
theorem sc_law_k29_round : FnScope n_law_k29_round ["stock", "plain", "players", "number", "late"] (defScope st_law_k29_round) := ⟨rfl, rfl, rfl, by decide +kernel, rfl, by decide +kernel, by decide +kernel⟩
abbrev st_law_k29_named : Stmt := top 48
abbrev n_law_k29_named : List Str := ["stock", "plain", "counts", "rounds", "late", "players", "a", "turn", "row", "rows", "number"]
theorem sc_law_k29_named : FnScope n_law_k29_named ["stock", "plain", "counts", "rounds", "late"] (defScope st_law_k29_named) := ⟨rfl, rfl, rfl, by decide +kernel, rfl, by decide +kernel, by decide +kernel⟩
abbrev st_law_k29_due : Stmt := top 49
abbrev n_law_k29_due : List Str := ["rows", "crowns", "late", "number", "row"]
theorem sc_law_k29_due : FnScope n_law_k29_due ["rows", "crowns", "late"] (defScope st_law_k29_due) := ⟨rfl, rfl, rfl, by decide +kernel, rfl, by decide +kernel, by decide +kernel⟩
abbrev st_law_k29_crowns : Stmt := top 50
abbrev n_law_k29_crowns : List Str := ["stock", "plain", "table", "counts", "late", "rows", "crowns", "due"]
theorem sc_law_k29_crowns : FnScope n_law_k29_crowns ["stock", "plain", "table", "counts", "late"] (defScope st_law_k29_crowns) := ⟨rfl, rfl, rfl, by decide +kernel, rfl, by decide +kernel, by decide +kernel⟩
abbrev st_law_k29_refusals : Stmt := top 51
abbrev n_law_k29_refusals : List Str := ["table"]
theorem sc_law_k29_refusals : FnScope n_law_k29_refusals ["table"] (defScope st_law_k29_refusals) := ⟨rfl, rfl, rfl, by decide +kernel, rfl, by decide +kernel, by decide +kernel⟩
abbrev st_law : Stmt := top 52
abbrev n_law : List Str := ["script", "stock", "plain", "counts", "late", "rounds", "ladder", "table", "due", "told", "great", "rung", "one"]
theorem sc_law : FnScope n_law ["script"] (defScope st_law) := ⟨rfl, rfl, rfl, by decide +kernel, rfl, by decide +kernel, by decide +kernel⟩
structure Ad where
  a_Ladder : Addr
  a_Table : Addr
  a_LIMITS : Addr
  a_TOLD : Addr
  a_TooMany : Addr
  a_BadLadder : Addr
  a_BadTable : Addr
  a_BadDemand : Addr
  a_WinsError : Addr
  a_BadText : Addr
  a_BadSeason : Addr
  a_BadCode : Addr
  a_BadEvent : Addr
  a_BadFoe : Addr
  a_BadPaper : Addr
  a_BadDisk : Addr
  a_BadDeed : Addr
  c_law_k29_crowns : Addr
  p_law_k29_crowns : Addr
  c_law_k29_refusals : Addr
  p_law_k29_refusals : Addr
structure Txt (K : PySem.W.Frag) (w : World) (mg : Str → Option Value) (Z : Ad) : Prop where
  b_ValueError : mg "ValueError" = none
  b_abs : mg "abs" = none
  b_bool : mg "bool" = none
  b_enumerate : mg "enumerate" = none
  b_int : mg "int" = none
  b_isinstance : mg "isinstance" = none
  b_len : mg "len" = none
  b_list : mg "list" = none
  b_max : mg "max" = none
  b_range : mg "range" = none
  b_reversed : mg "reversed" = none
  b_str : mg "str" = none
  b_sum : mg "sum" = none
  b_tuple : mg "tuple" = none
  c_LIMITS : mg "LIMITS" = some (.ref Z.a_LIMITS)
  k_LIMITS_lines : KDct K w Z.a_LIMITS "lines" (.int 300)
  k_LIMITS_words : KDct K w Z.a_LIMITS "words" (.int 60)
  k_LIMITS_number : KDct K w Z.a_LIMITS "number" (.int 1000000000000000000000000000000)
  k_LIMITS_depth : KDct K w Z.a_LIMITS "depth" (.int 20)
  k_LIMITS_blocks : KDct K w Z.a_LIMITS "blocks" (.int 12)
  k_LIMITS_lanes : KDct K w Z.a_LIMITS "lanes" (.int 6)
  k_LIMITS_rungs : KDct K w Z.a_LIMITS "rungs" (.int 40)
  k_LIMITS_ways : KDct K w Z.a_LIMITS "ways" (.int 8)
  k_LIMITS_promises : KDct K w Z.a_LIMITS "promises" (.int 20)
  k_LIMITS_variables : KDct K w Z.a_LIMITS "variables" (.int 4)
  k_LIMITS_states : KDct K w Z.a_LIMITS "states" (.int 400)
  k_LIMITS_rows : KDct K w Z.a_LIMITS "rows" (.int 600)
  k_LIMITS_events : KDct K w Z.a_LIMITS "events" (.int 3000)
  k_LIMITS_meetings : KDct K w Z.a_LIMITS "meetings" (.int 3000)
  k_LIMITS_housemeetings : KDct K w Z.a_LIMITS "housemeetings" (.int 400)
  k_LIMITS_rounds : KDct K w Z.a_LIMITS "rounds" (.int 300)
  k_LIMITS_late : KDct K w Z.a_LIMITS "late" (.int 6)
  k_LIMITS_plan : KDct K w Z.a_LIMITS "plan" (.int 200)
  k_LIMITS_nodes : KDct K w Z.a_LIMITS "nodes" (.int 2000)
  k_LIMITS_players : KDct K w Z.a_LIMITS "players" (.int 60)
  k_LIMITS_log : KDct K w Z.a_LIMITS "log" (.int 2000)
  k_LIMITS_signs : KDct K w Z.a_LIMITS "signs" (.int 2000)
  c_OUT : ∃ t, mg "OUT" = some (.int (-1) t)
  c_TOLD : mg "TOLD" = some (.ref Z.a_TOLD)
  k_TOLD_blocks : KDct K w Z.a_TOLD "blocks" (.str "depth")
  k_TOLD_states : KDct K w Z.a_TOLD "states" (.str "variables")
  k_TOLD_housemeetings : KDct K w Z.a_TOLD "housemeetings" (.str "meetings")
  m_TOLD_lanes : KMiss K w Z.a_TOLD "lanes"
  m_TOLD_rungs : KMiss K w Z.a_TOLD "rungs"
  m_TOLD_rounds : KMiss K w Z.a_TOLD "rounds"
  m_TOLD_late : KMiss K w Z.a_TOLD "late"
  o_TooMany : OexC K Z.a_TooMany
  x_TooMany : XfC K Z.a_TooMany
  g_TooMany : mg "TooMany" = some (.ref Z.a_TooMany)
  m_TooMany : PySem.W.exmOne K (.ref Z.a_TooMany) (.ref Z.a_TooMany) = some true
  n_TooMany_what : PySem.W.findIn K (.ref Z.a_TooMany) "what" = some none
  o_BadLadder : OexC K Z.a_BadLadder
  x_BadLadder : XfC K Z.a_BadLadder
  g_BadLadder : mg "BadLadder" = some (.ref Z.a_BadLadder)
  m_BadLadder : PySem.W.exmOne K (.ref Z.a_BadLadder) (.ref Z.a_BadLadder) = some true
  n_BadLadder_rung : PySem.W.findIn K (.ref Z.a_BadLadder) "rung" = some none
  o_BadTable : OexC K Z.a_BadTable
  x_BadTable : XfC K Z.a_BadTable
  g_BadTable : mg "BadTable" = some (.ref Z.a_BadTable)
  m_BadTable : PySem.W.exmOne K (.ref Z.a_BadTable) (.ref Z.a_BadTable) = some true
  n_BadTable_rung : PySem.W.findIn K (.ref Z.a_BadTable) "rung" = some none
  o_BadDemand : OexC K Z.a_BadDemand
  x_BadDemand : XfC K Z.a_BadDemand
  g_BadDemand : mg "BadDemand" = some (.ref Z.a_BadDemand)
  m_BadDemand : PySem.W.exmOne K (.ref Z.a_BadDemand) (.ref Z.a_BadDemand) = some true
  n_BadDemand_what : PySem.W.findIn K (.ref Z.a_BadDemand) "what" = some none
  g_WinsError : mg "WinsError" = some (.ref Z.a_WinsError)
  wg_WinsError : PySem.W.specialIn K (.ref Z.a_WinsError) "__getattribute__" = some (some (.builtin "type.__getattribute__"))
  wr_WinsError : PySem.W.readsIn K Z.a_WinsError (.type "type") = true
  wv_WinsError : PySem.W.findCls K (.ref Z.a_WinsError) (.type "type") "__init__" = some (.val (.builtin "ValueError.__init__"))
  g_BadText : mg "BadText" = some (.ref Z.a_BadText)
  g_BadSeason : mg "BadSeason" = some (.ref Z.a_BadSeason)
  g_BadCode : mg "BadCode" = some (.ref Z.a_BadCode)
  g_BadEvent : mg "BadEvent" = some (.ref Z.a_BadEvent)
  g_BadFoe : mg "BadFoe" = some (.ref Z.a_BadFoe)
  g_BadPaper : mg "BadPaper" = some (.ref Z.a_BadPaper)
  g_BadDisk : mg "BadDisk" = some (.ref Z.a_BadDisk)
  g_BadDeed : mg "BadDeed" = some (.ref Z.a_BadDeed)
  xi_TooMany : XisC K Z.a_TooMany
  ki_TooMany_TooMany : PySem.W.kitOne K (.ref Z.a_TooMany) (.ref Z.a_TooMany) = some true
  ki_TooMany_BadLadder : PySem.W.kitOne K (.ref Z.a_TooMany) (.ref Z.a_BadLadder) = some false
  ki_TooMany_BadTable : PySem.W.kitOne K (.ref Z.a_TooMany) (.ref Z.a_BadTable) = some false
  ki_TooMany_BadDemand : PySem.W.kitOne K (.ref Z.a_TooMany) (.ref Z.a_BadDemand) = some false
  ki_TooMany_ValueError : PySem.W.kitOne K (.ref Z.a_TooMany) (.type "ValueError") = some true
  ka_TooMany_0 : PySem.W.kitAny K (.ref Z.a_TooMany) [.ref Z.a_BadText, .ref Z.a_BadSeason, .ref Z.a_BadCode, .ref Z.a_BadEvent, .ref Z.a_BadFoe, .ref Z.a_BadPaper, .ref Z.a_BadDisk, .ref Z.a_BadDeed] = some false
  mm_TooMany_WinsError : PySem.W.exmOne K (.ref Z.a_TooMany) (.ref Z.a_WinsError) = some true
  xi_BadLadder : XisC K Z.a_BadLadder
  ki_BadLadder_TooMany : PySem.W.kitOne K (.ref Z.a_BadLadder) (.ref Z.a_TooMany) = some false
  ki_BadLadder_BadLadder : PySem.W.kitOne K (.ref Z.a_BadLadder) (.ref Z.a_BadLadder) = some true
  ki_BadLadder_BadTable : PySem.W.kitOne K (.ref Z.a_BadLadder) (.ref Z.a_BadTable) = some false
  ki_BadLadder_BadDemand : PySem.W.kitOne K (.ref Z.a_BadLadder) (.ref Z.a_BadDemand) = some false
  ki_BadLadder_ValueError : PySem.W.kitOne K (.ref Z.a_BadLadder) (.type "ValueError") = some true
  ka_BadLadder_0 : PySem.W.kitAny K (.ref Z.a_BadLadder) [.ref Z.a_BadText, .ref Z.a_BadSeason, .ref Z.a_BadCode, .ref Z.a_BadEvent, .ref Z.a_BadFoe, .ref Z.a_BadPaper, .ref Z.a_BadDisk, .ref Z.a_BadDeed] = some false
  mm_BadLadder_WinsError : PySem.W.exmOne K (.ref Z.a_BadLadder) (.ref Z.a_WinsError) = some true
  xi_BadTable : XisC K Z.a_BadTable
  ki_BadTable_TooMany : PySem.W.kitOne K (.ref Z.a_BadTable) (.ref Z.a_TooMany) = some false
  ki_BadTable_BadLadder : PySem.W.kitOne K (.ref Z.a_BadTable) (.ref Z.a_BadLadder) = some false
  ki_BadTable_BadTable : PySem.W.kitOne K (.ref Z.a_BadTable) (.ref Z.a_BadTable) = some true
  ki_BadTable_BadDemand : PySem.W.kitOne K (.ref Z.a_BadTable) (.ref Z.a_BadDemand) = some false
  ki_BadTable_ValueError : PySem.W.kitOne K (.ref Z.a_BadTable) (.type "ValueError") = some true
  ka_BadTable_0 : PySem.W.kitAny K (.ref Z.a_BadTable) [.ref Z.a_BadText, .ref Z.a_BadSeason, .ref Z.a_BadCode, .ref Z.a_BadEvent, .ref Z.a_BadFoe, .ref Z.a_BadPaper, .ref Z.a_BadDisk, .ref Z.a_BadDeed] = some false
  mm_BadTable_WinsError : PySem.W.exmOne K (.ref Z.a_BadTable) (.ref Z.a_WinsError) = some true
  xi_BadDemand : XisC K Z.a_BadDemand
  ki_BadDemand_TooMany : PySem.W.kitOne K (.ref Z.a_BadDemand) (.ref Z.a_TooMany) = some false
  ki_BadDemand_BadLadder : PySem.W.kitOne K (.ref Z.a_BadDemand) (.ref Z.a_BadLadder) = some false
  ki_BadDemand_BadTable : PySem.W.kitOne K (.ref Z.a_BadDemand) (.ref Z.a_BadTable) = some false
  ki_BadDemand_BadDemand : PySem.W.kitOne K (.ref Z.a_BadDemand) (.ref Z.a_BadDemand) = some true
  ki_BadDemand_ValueError : PySem.W.kitOne K (.ref Z.a_BadDemand) (.type "ValueError") = some true
  ka_BadDemand_0 : PySem.W.kitAny K (.ref Z.a_BadDemand) [.ref Z.a_BadText, .ref Z.a_BadSeason, .ref Z.a_BadCode, .ref Z.a_BadEvent, .ref Z.a_BadFoe, .ref Z.a_BadPaper, .ref Z.a_BadDisk, .ref Z.a_BadDeed] = some false
  mm_BadDemand_WinsError : PySem.W.exmOne K (.ref Z.a_BadDemand) (.ref Z.a_WinsError) = some true
  l_Ladder : Cls K Z.a_Ladder
  n_Ladder_lanes_number : NoAttr K Z.a_Ladder "lanes_number"
  n_Ladder_falls_list : NoAttr K Z.a_Ladder "falls_list"
  n_Ladder_returns_kept : NoAttr K Z.a_Ladder "returns_kept"
  n_Ladder_loads_table : NoAttr K Z.a_Ladder "loads_table"
  n_Ladder_heads_list : NoAttr K Z.a_Ladder "heads_list"
  n_Ladder_worths_list : NoAttr K Z.a_Ladder "worths_list"
  l_Table : Cls K Z.a_Table
  n_Table_ladder_kept : NoAttr K Z.a_Table "ladder_kept"
  n_Table_counts_list : NoAttr K Z.a_Table "counts_list"
  f_TooMany_init : ∃ f fd, Fun K "__init__" "TooMany.__init__" st_TooMany_init f fd ∧ PySem.W.findIn K (.ref Z.a_TooMany) "__init__" = some (some (.ref f)) ∧ PySem.W.typeIn K (.ref f) = some (.type "function") ∧ Binds K fd ["self", "what"] []
  f_BadLadder_init : ∃ f fd, Fun K "__init__" "BadLadder.__init__" st_BadLadder_init f fd ∧ PySem.W.findIn K (.ref Z.a_BadLadder) "__init__" = some (some (.ref f)) ∧ PySem.W.typeIn K (.ref f) = some (.type "function") ∧ Binds K fd ["self", "rung"] []
  f_BadTable_init : ∃ f fd, Fun K "__init__" "BadTable.__init__" st_BadTable_init f fd ∧ PySem.W.findIn K (.ref Z.a_BadTable) "__init__" = some (some (.ref f)) ∧ PySem.W.typeIn K (.ref f) = some (.type "function") ∧ Binds K fd ["self", "rung"] []
  f_BadDemand_init : ∃ f fd, Fun K "__init__" "BadDemand.__init__" st_BadDemand_init f fd ∧ PySem.W.findIn K (.ref Z.a_BadDemand) "__init__" = some (some (.ref f)) ∧ PySem.W.typeIn K (.ref f) = some (.type "function") ∧ Binds K fd ["self", "what"] []
  f_bound : ∃ f fd, Fun K "bound" "bound" st_bound f fd ∧ mg "bound" = some (.ref f) ∧ Binds K fd ["what", "number"] []
  f_next_row : ∃ f fd, Fun K "next_row" "next_row" st_next_row f fd ∧ mg "next_row" = some (.ref f) ∧ Binds K fd ["table", "known"] []
  f_grow : ∃ f fd, Fun K "grow" "grow" st_grow f fd ∧ mg "grow" = some (.ref f) ∧ Binds K fd ["table", "rows", "late"] []
  f_round_rows : ∃ f fd, Fun K "round_rows" "round_rows" st_round_rows f fd ∧ mg "round_rows" = some (.ref f) ∧ Binds K fd ["table", "rounds", "late"] []
  f_crown_round : ∃ f fd, Fun K "crown_round" "crown_round" st_crown_round f fd ∧ mg "crown_round" = some (.ref f) ∧ Binds K fd ["table", "crowns", "late"] []
  f_grown : ∃ f fd, Fun K "grown" "grown" st_grown f fd ∧ mg "grown" = some (.ref f) ∧ Binds K fd ["lanes", "falls", "first", "charges"] []
  f_load_rows : ∃ f fd, Fun K "load_rows" "load_rows" st_load_rows f fd ∧ mg "load_rows" = some (.ref f) ∧ Binds K fd ["lanes", "falls"] []
  f_head_row : ∃ f fd, Fun K "head_row" "head_row" st_head_row f fd ∧ mg "head_row" = some (.ref f) ∧ Binds K fd ["lanes", "falls"] []
  f_worth_row : ∃ f fd, Fun K "worth_row" "worth_row" st_worth_row f fd ∧ mg "worth_row" = some (.ref f) ∧ Binds K fd ["lanes", "falls"] []
  f_wrong_rung : ∃ f fd, Fun K "wrong_rung" "wrong_rung" st_wrong_rung f fd ∧ mg "wrong_rung" = some (.ref f) ∧ Binds K fd ["lanes", "falls"] []
  f_Ladder_init : ∃ f fd, Fun K "__init__" "Ladder.__init__" st_Ladder_init f fd ∧ Mk K Z.a_Ladder f ∧ mg "Ladder" = some (.ref Z.a_Ladder) ∧ Binds K fd ["self", "lanes", "falls", "returns"] []
  f_Ladder_lanes : ∃ f fd, Fun K "lanes" "Ladder.lanes" st_Ladder_lanes f fd ∧ Meth K Z.a_Ladder "lanes" f ∧ Binds K fd ["self"] []
  f_Ladder_rungs : ∃ f fd, Fun K "rungs" "Ladder.rungs" st_Ladder_rungs f fd ∧ Meth K Z.a_Ladder "rungs" f ∧ Binds K fd ["self"] []
  f_Ladder_falls : ∃ f fd, Fun K "falls" "Ladder.falls" st_Ladder_falls f fd ∧ Meth K Z.a_Ladder "falls" f ∧ Binds K fd ["self"] []
  f_Ladder_returns : ∃ f fd, Fun K "returns" "Ladder.returns" st_Ladder_returns f fd ∧ Meth K Z.a_Ladder "returns" f ∧ Binds K fd ["self"] []
  f_wrong_count : ∃ f fd, Fun K "wrong_count" "wrong_count" st_wrong_count f fd ∧ mg "wrong_count" = some (.ref f) ∧ Binds K fd ["counts", "rungs"] []
  f_Table_init : ∃ f fd, Fun K "__init__" "Table.__init__" st_Table_init f fd ∧ Mk K Z.a_Table f ∧ mg "Table" = some (.ref Z.a_Table) ∧ Binds K fd ["self", "ladder", "counts"] []
  f_Table_ladder : ∃ f fd, Fun K "ladder" "Table.ladder" st_Table_ladder f fd ∧ Meth K Z.a_Table "ladder" f ∧ Binds K fd ["self"] []
  f_Table_counts : ∃ f fd, Fun K "counts" "Table.counts" st_Table_counts f fd ∧ Meth K Z.a_Table "counts" f ∧ Binds K fd ["self"] []
  f_law_e_named : ∃ f fd, Fun K "_law_e_named" "_law_e_named" st_law_e_named f fd ∧ mg "_law_e_named" = some (.ref f) ∧ Binds K fd ["raised"] []
  f_law_e_asked : ∃ f fd, Fun K "_law_e_asked" "_law_e_asked" st_law_e_asked f fd ∧ mg "_law_e_asked" = some (.ref f) ∧ Binds K fd ["call"] []
  f_law_e_refused : ∃ f fd, Fun K "_law_e_refused" "_law_e_refused" st_law_e_refused f fd ∧ mg "_law_e_refused" = some (.ref f) ∧ Binds K fd ["call", "due"] []
  f_law_e_falls : ∃ f fd, Fun K "_law_e_falls" "_law_e_falls" st_law_e_falls f fd ∧ mg "_law_e_falls" = some (.ref f) ∧ Binds K fd ["stock", "rungs"] []
  f_law_e_ladder : ∃ f fd, Fun K "_law_e_ladder" "_law_e_ladder" st_law_e_ladder f fd ∧ mg "_law_e_ladder" = some (.ref f) ∧ Binds K fd ["stock", "least", "most", "widest"] []
  f_law_stock : ∃ f fd, Fun K "_law_stock" "_law_stock" st_law_stock f fd ∧ mg "_law_stock" = some (.ref f) ∧ Binds K fd ["script", "at"] []
  f_law_draw : ∃ f fd, Fun K "_law_draw" "_law_draw" st_law_draw f fd ∧ mg "_law_draw" = some (.ref f) ∧ Binds K fd ["stock", "many"] []
  f_law_matches : ∃ f fd, Fun K "_law_matches" "_law_matches" st_law_matches f fd ∧ mg "_law_matches" = some (.ref f) ∧ Binds K fd ["answer", "due"] []
  f_law_k29_step : ∃ f fd, Fun K "_law_k29_step" "_law_k29_step" st_law_k29_step f fd ∧ mg "_law_k29_step" = some (.ref f) ∧ Binds K fd ["plain", "counts", "known"] []
  f_law_k29_rows : ∃ f fd, Fun K "_law_k29_rows" "_law_k29_rows" st_law_k29_rows f fd ∧ mg "_law_k29_rows" = some (.ref f) ∧ Binds K fd ["plain", "counts", "rounds", "late"] []
  f_law_k29_round : ∃ f fd, Fun K "_law_k29_round" "_law_k29_round" st_law_k29_round f fd ∧ mg "_law_k29_round" = some (.ref f) ∧ Binds K fd ["stock", "plain", "players", "number", "late"] []
  f_law_k29_named : ∃ f fd, Fun K "_law_k29_named" "_law_k29_named" st_law_k29_named f fd ∧ mg "_law_k29_named" = some (.ref f) ∧ Binds K fd ["stock", "plain", "counts", "rounds", "late"] []
  f_law_k29_due : ∃ f fd, Fun K "_law_k29_due" "_law_k29_due" st_law_k29_due f fd ∧ mg "_law_k29_due" = some (.ref f) ∧ Binds K fd ["rows", "crowns", "late"] []
  f_law_k29_crowns : ∃ f fd, Fun K "_law_k29_crowns" "_law_k29_crowns" st_law_k29_crowns f fd ∧ fd.code = .ref Z.c_law_k29_crowns ∧ mg "_law_k29_crowns" = some (.ref f) ∧ Binds K fd ["stock", "plain", "table", "counts", "late"] []
  f_law_k29_refusals : ∃ f fd, Fun K "_law_k29_refusals" "_law_k29_refusals" st_law_k29_refusals f fd ∧ fd.code = .ref Z.c_law_k29_refusals ∧ mg "_law_k29_refusals" = some (.ref f) ∧ Binds K fd ["table"] []
  f_law : ∃ f fd, Fun K "law" "law" st_law f fd ∧ mg "law" = some (.ref f) ∧ Binds K fd ["script"] []
def tabs (Z : Ad) : List (Addr × Str) := [(Z.p_law_k29_crowns, lq "_law_k29_crowns"), (Z.p_law_k29_refusals, lq "_law_k29_refusals")]
structure Bas (Z : Ad) (mg : Str → Option Value) (base : Heap) : Prop where
  b_law_k29_crowns : LamX.TabB base mg Z.c_law_k29_crowns Z.p_law_k29_crowns
  b_law_k29_refusals : LamX.TabB base mg Z.c_law_k29_refusals Z.p_law_k29_refusals
  ne_law_k29_refusals_law_k29_crowns : Z.p_law_k29_refusals ≠ Z.p_law_k29_crowns
theorem tabs_law_k29_crowns (Z : Ad) : (Z.p_law_k29_crowns, lq "_law_k29_crowns") ∈ tabs Z := by simp [tabs]
theorem tabu_law_k29_crowns {Z : Ad} {mg : Str → Option Value} {base : Heap} (B : Bas Z mg base) : ∀ p ∈ tabs Z, p.1 = Z.p_law_k29_crowns → p.2 = lq "_law_k29_crowns" := by
  intro p hp e
  simp only [tabs, List.mem_cons, List.not_mem_nil, or_false] at hp
  rcases hp with rfl | rfl
  · rfl
  · exact absurd e B.ne_law_k29_refusals_law_k29_crowns
theorem tabs_law_k29_refusals (Z : Ad) : (Z.p_law_k29_refusals, lq "_law_k29_refusals") ∈ tabs Z := by simp [tabs]
theorem tabu_law_k29_refusals {Z : Ad} {mg : Str → Option Value} {base : Heap} (B : Bas Z mg base) : ∀ p ∈ tabs Z, p.1 = Z.p_law_k29_refusals → p.2 = lq "_law_k29_refusals" := by
  intro p hp e
  simp only [tabs, List.mem_cons, List.not_mem_nil, or_false] at hp
  rcases hp with rfl | rfl
  · exact absurd e.symm B.ne_law_k29_refusals_law_k29_crowns
  · rfl
end L29

set_option Elab.async false
set_option linter.all false
set_option maxRecDepth 100000
set_option maxHeartbeats 4000000
/-! ladders: weights, slack, the rows from the top -/
namespace Ld
/-- sums over the first n -/
def sm (f : Nat → Int) : Nat → Int
  | 0 => 0
  | n + 1 => sm f n + f n
theorem sm_congr {f g : Nat → Int} : ∀ {n : Nat}, (∀ i, i < n → f i = g i) → sm f n = sm g n
  | 0, _ => rfl
  | n + 1, h => by rw [sm, sm, sm_congr fun i hi => h i (by omega), h n (by omega)]
theorem sm_add (f g : Nat → Int) : ∀ n, sm (fun i => f i + g i) n = sm f n + sm g n
  | 0 => rfl
  | n + 1 => by rw [sm, sm, sm, sm_add f g n]; omega
theorem sm_sub (f g : Nat → Int) : ∀ n, sm (fun i => f i - g i) n = sm f n - sm g n
  | 0 => rfl
  | n + 1 => by rw [sm, sm, sm, sm_sub f g n]; omega
theorem sm_mul (c : Int) (f : Nat → Int) : ∀ n, sm (fun i => c * f i) n = c * sm f n
  | 0 => by simp [sm]
  | n + 1 => by rw [sm, sm, sm_mul c f n, Int.mul_add]
theorem sm_zero : ∀ n, sm (fun _ => 0) n = 0
  | 0 => rfl
  | n + 1 => by rw [sm, sm_zero n]; rfl
/-- the sum of the one that is chosen -/
theorem sm_one (a : Nat) (x : Nat → Int) : ∀ n, sm (fun i => if i = a then x i else 0) n = if a < n then x a else 0
  | 0 => by simp [sm]
  | n + 1 => by
    rw [sm, sm_one a x n]
    by_cases h : n = a
    · subst h
      simp
    · by_cases h2 : a < n
      · rw [if_pos h2, if_neg h, if_pos (by omega)]; omega
      · rw [if_neg h2, if_neg h, if_neg (by omega)]; omega
theorem sm_swap (f : Nat → Nat → Int) (m : Nat) : ∀ n, sm (fun i => sm (fun j => f i j) m) n = sm (fun j => sm (fun i => f i j) n) m
  | 0 => by simp only [sm]; rw [sm_zero]
  | n + 1 => by
    simp only [sm]
    rw [sm_swap f m n, sm_add]
/-- what a fall finds -/
def lowV (v : Nat → Int) (f : Int) : Int := if f < 0 then 0 else v f.toNat
def grow (L : Int) (fs : Nat → Int) (x : Int) (ch : Nat → Int) : Nat → List Int
  | 0 => [x]
  | n + 1 => grow L fs x ch n ++ [L * (grow L fs x ch n).getD n 0 - (L - 1) * lowV (fun i => (grow L fs x ch n).getD i 0) (fs n) + ch n]
def gv (L : Int) (fs : Nat → Int) (x : Int) (ch : Nat → Int) (i : Nat) : Int := (grow L fs x ch i).getD i 0
theorem grow_len (L : Int) (fs : Nat → Int) (x : Int) (ch : Nat → Int) : ∀ n, (grow L fs x ch n).length = n + 1
  | 0 => rfl
  | n + 1 => by rw [grow, List.length_append, grow_len L fs x ch n]; rfl
theorem grow_get (L : Int) (fs : Nat → Int) (x : Int) (ch : Nat → Int) : ∀ n i, i ≤ n → (grow L fs x ch n).getD i 0 = gv L fs x ch i
  | 0, i, h => by
    have : i = 0 := by omega
    subst this
    rfl
  | n + 1, i, h => by
    by_cases e : i = n + 1
    · subst e; rfl
    · rw [← grow_get L fs x ch n i (by omega), grow, List.getD_eq_getElem?_getD, List.getD_eq_getElem?_getD, List.getElem?_append_left (by rw [grow_len]; omega)]
      exact List.getD_eq_getElem?_getD.symm
theorem gv_zero (L : Int) (fs : Nat → Int) (x : Int) (ch : Nat → Int) : gv L fs x ch 0 = x := rfl
theorem gv_succ {L : Int} {fs : Nat → Int} {x : Int} {ch : Nat → Int} {n : Nat} (h : fs n ≤ n) : gv L fs x ch (n + 1) = L * gv L fs x ch n - (L - 1) * lowV (gv L fs x ch) (fs n) + ch n := by
  have e : gv L fs x ch (n + 1) = (grow L fs x ch (n + 1)).getD (n + 1) 0 := rfl
  rw [e, grow, List.getD_eq_getElem?_getD, List.getElem?_append_right (by rw [grow_len]; omega), grow_len, Nat.sub_self, List.getElem?_cons_zero, Option.getD_some]
  rw [grow_get L fs x ch n n (Nat.le_refl _)]
  have z : lowV (fun i => (grow L fs x ch n).getD i 0) (fs n) = lowV (gv L fs x ch) (fs n) := by
    unfold lowV
    split
    · rfl
    · exact grow_get L fs x ch n _ (by omega)
  rw [z]
/-- the falls that are right -/
def OkF (fs : Nat → Int) : Prop := ∀ i, -1 ≤ fs i ∧ fs i ≤ i ∧ (0 < i → fs i ≤ (i : Int) - 1)
def dl (a b : Nat) : Int := if b = a then 1 else 0
/-- loads and heads -/
def ld (L : Int) (fs : Nat → Int) (a b : Nat) : Int := gv L fs 0 (dl a) b
def hd (L : Int) (fs : Nat → Int) (b : Nat) : Int := gv L fs 1 (fun _ => 0) b
theorem ld_zero {L : Int} {fs : Nat → Int} (ok : OkF fs) {a : Nat} : ∀ b, b ≤ a → ld L fs a b = 0 := by
  intro b
  induction b using Nat.strongRecOn with
  | _ b ih =>
    intro hb
    cases b with
    | zero => rfl
    | succ n =>
      show gv L fs 0 (dl a) (n + 1) = 0
      rw [gv_succ (ok n).2.1]
      have h1 : gv L fs 0 (dl a) n = 0 := ih n (by omega) (by omega)
      have h2 : lowV (gv L fs 0 (dl a)) (fs n) = 0 := by
        unfold lowV
        have := ok n
        split
        · rfl
        · exact ih _ (by omega) (by omega)
      rw [h1, h2]
      simp [dl]
      omega
theorem ld_succ {L : Int} {fs : Nat → Int} (ok : OkF fs) (a n : Nat) : ld L fs a (n + 1) = L * ld L fs a n - (L - 1) * lowV (ld L fs a) (fs n) + dl a n := gv_succ (ok n).2.1
theorem hd_succ {L : Int} {fs : Nat → Int} (ok : OkF fs) (n : Nat) : hd L fs (n + 1) = L * hd L fs n - (L - 1) * lowV (hd L fs) (fs n) := by
  have := gv_succ (L := L) (x := 1) (ch := fun _ => 0) (ok n).2.1
  rw [Int.add_zero] at this
  exact this
theorem low_ld {L : Int} {fs : Nat → Int} (ok : OkF fs) {a n : Nat} (h : n ≤ a) : lowV (ld L fs a) (fs n) = 0 := by
  unfold lowV
  have := ok n
  split
  · rfl
  · exact ld_zero ok _ (by omega)
theorem ld_one {L : Int} {fs : Nat → Int} (ok : OkF fs) (a : Nat) : ld L fs a (a + 1) = 1 := by
  rw [ld_succ ok, ld_zero ok a (Nat.le_refl _), low_ld ok (Nat.le_refl _)]
  simp [dl]
/-- the row ahead of the rung a's own -/
def pr (L : Int) (fs : Nat → Int) (a b : Nat) : Int := if a = 0 then hd L fs b else ld L fs (a - 1) b
theorem lowV_add (v w : Nat → Int) (f : Int) : lowV (fun b => v b + w b) f = lowV v f + lowV w f := by unfold lowV; split <;> simp
theorem lowV_sub (v w : Nat → Int) (f : Int) : lowV (fun b => v b - w b) f = lowV v f - lowV w f := by unfold lowV; split <;> simp
theorem lowV_mul (c : Int) (v : Nat → Int) (f : Int) : lowV (fun b => c * v b) f = c * lowV v f := by unfold lowV; split <;> simp
theorem lowV_sm (v : Nat → Nat → Int) (f : Int) (k : Nat) : lowV (fun b => sm (fun e => v e b) k) f = sm (fun e => lowV (v e) f) k := by
  unfold lowV
  split
  · rw [sm_zero]
  · rfl
theorem lowV_congr {v w : Nat → Int} {f : Int} (h : ∀ i : Nat, (i : Int) = f → v i = w i) : lowV v f = lowV w f := by
  unfold lowV
  split
  · rfl
  · exact h _ (by omega)
/-- the row ahead, told by the own one and the rows of the rungs that fall there -/
theorem pr_eq {L : Int} {fs : Nat → Int} (ok : OkF fs) {a k : Nat} (ha : a < k) : ∀ b, b ≤ k → pr L fs a b = dl a b + L * ld L fs a b - (L - 1) * sm (fun e => if fs e = a then ld L fs e b else 0) k := by
  intro b
  induction b using Nat.strongRecOn with
  | _ b ih =>
    intro hb
    cases b with
    | zero =>
      rw [ld_zero ok 0 (by omega), sm_congr (g := fun _ => 0) (fun i _ => by rw [ld_zero ok 0 (by omega)]; simp), sm_zero]
      unfold pr dl
      by_cases h : a = 0
      · rw [if_pos h, if_pos h.symm]; show (1 : Int) = _; simp
      · rw [if_neg h, if_neg (by omega), ld_zero ok 0 (by omega)]; simp
    | succ n =>
      have i1 := ih n (by omega) (by omega)
      have i2 : lowV (pr L fs a) (fs n) = lowV (fun b => dl a b + L * ld L fs a b - (L - 1) * sm (fun e => if fs e = a then ld L fs e b else 0) k) (fs n) :=
        lowV_congr fun i hi => ih i (by have := (ok n).2.1; omega) (by have := (ok n).2.1; omega)
      have e1 : pr L fs a (n + 1) = L * pr L fs a n - (L - 1) * lowV (pr L fs a) (fs n) + (if a = n + 1 then 1 else 0) := by
        unfold pr
        by_cases h : a = 0
        · simp only [h, if_true]
          rw [hd_succ ok]
          have : ¬ 0 = n + 1 := by omega
          rw [if_neg this]
          show _ = L * hd L fs n - (L - 1) * lowV (hd L fs) (fs n) + 0
          omega
        · simp only [if_neg h]
          rw [ld_succ ok]
          congr 1
          unfold dl
          by_cases h2 : a = n + 1
          · rw [if_pos h2, if_pos (by omega)]
          · rw [if_neg h2, if_neg (by omega)]
      have e2 : sm (fun e => if fs e = a then ld L fs e (n + 1) else 0) k = L * sm (fun e => if fs e = a then ld L fs e n else 0) k - (L - 1) * sm (fun e => lowV (fun b => if fs e = a then ld L fs e b else 0) (fs n)) k + (if fs n = a then 1 else 0) := by
        rw [← sm_mul, ← sm_mul, ← sm_sub]
        have : (if fs n = (a : Int) then (1 : Int) else 0) = sm (fun e => if e = n then (if fs e = (a : Int) then 1 else 0) else 0) k := by
          rw [sm_one n (fun e => if fs e = (a : Int) then 1 else 0), if_pos (show n < k by omega)]
        rw [this, ← sm_add]
        refine sm_congr fun e _ => ?_
        by_cases h : fs e = a
        · simp only [if_pos h]
          rw [ld_succ ok]
          congr 1
          unfold dl
          by_cases h2 : n = e
          · subst h2; simp
          · rw [if_neg h2, if_neg (fun z => h2 z.symm)]
        · simp only [if_neg h]
          have : lowV (fun _ => (0 : Int)) (fs n) = 0 := by unfold lowV; split <;> rfl
          rw [this]
          simp
      have e3 : lowV (dl a) (fs n) = if fs n = a then 1 else 0 := by
        unfold lowV dl
        have := (ok n).1
        by_cases h : fs n < 0
        · rw [if_pos h, if_neg (by omega)]
        · rw [if_neg h]
          by_cases h2 : fs n = a
          · rw [if_pos h2, if_pos (by omega)]
          · rw [if_neg h2, if_neg (by omega)]
      rw [lowV_sub, lowV_add, lowV_mul, lowV_mul, lowV_sm, e3] at i2
      rw [e1, i1, i2, e2, ld_succ ok]
      have hd1 : dl a (n + 1) = if a = n + 1 then 1 else 0 := by
        unfold dl
        by_cases h : a = n + 1
        · rw [if_pos h, if_pos h.symm]
        · rw [if_neg h, if_neg (fun z => h z.symm)]
      rw [hd1]
      generalize sm (fun e => if fs e = (a : Int) then ld L fs e n else 0) k = S1
      generalize sm (fun e => lowV (fun b => if fs e = (a : Int) then ld L fs e b else 0) (fs n)) k = S2
      generalize (if fs n = (a : Int) then (1 : Int) else 0) = d1
      generalize (if a = n + 1 then (1 : Int) else 0) = d2
      generalize ld L fs a n = x
      generalize lowV (ld L fs a) (fs n) = y
      generalize dl a n = z
      grind
end Ld

set_option Elab.async false
set_option linter.all false
set_option maxRecDepth 100000
set_option maxHeartbeats 4000000
namespace Ld
/-- one entry of the demanded slack -/
def ent (k : Nat) (s : Nat → Int) (more lost : Int) (v : Nat → Int) (e : Int) : Int := sm (fun b => s b * v b) k + more * (v k - e) + lost * v (k - 1)
theorem ent_e (k : Nat) (s : Nat → Int) (more lost : Int) (v : Nat → Int) (e : Int) : ent k s more lost v e = ent k s more lost v 0 - more * e := by
  unfold ent
  generalize sm (fun b => s b * v b) k = x
  grind
theorem ent_congr {k : Nat} {s : Nat → Int} {more lost e : Int} {v w : Nat → Int} (h : ∀ b, b ≤ k → v b = w b) : ent k s more lost v e = ent k s more lost w e := by
  unfold ent
  rw [sm_congr (g := fun b => s b * w b) (fun i hi => by rw [h i (by omega)]), h k (by omega), h (k - 1) (by omega)]
theorem ent_lin (k : Nat) (s : Nat → Int) (more lost c d : Int) (x y z : Nat → Int) : ent k s more lost (fun b => x b + c * y b - d * z b) 0 = ent k s more lost x 0 + c * ent k s more lost y 0 - d * ent k s more lost z 0 := by
  unfold ent
  have h : sm (fun b => s b * (x b + c * y b - d * z b)) k = sm (fun b => s b * x b) k + c * sm (fun b => s b * y b) k - d * sm (fun b => s b * z b) k := by
    rw [← sm_mul, ← sm_mul, ← sm_add, ← sm_sub]
    exact sm_congr fun i _ => by grind
  rw [h]
  generalize sm (fun b => s b * x b) k = a1
  generalize sm (fun b => s b * y b) k = a2
  generalize sm (fun b => s b * z b) k = a3
  grind
theorem ent_sm (k : Nat) (s : Nat → Int) (more lost : Int) (P : Nat → Prop) [DecidablePred P] (v : Nat → Nat → Int) (m : Nat) : ent k s more lost (fun b => sm (fun e => if P e then v e b else 0) m) 0 = sm (fun e => if P e then ent k s more lost (v e) 0 else 0) m := by
  have h : ∀ e, (if P e then ent k s more lost (v e) 0 else 0) = (sm (fun b => s b * (if P e then v e b else 0)) k + more * (if P e then v e k else 0)) + lost * (if P e then v e (k - 1) else 0) := fun e => by
    by_cases he : P e
    · simp only [if_pos he]; unfold ent; grind
    · simp only [if_neg he, Int.mul_zero]; rw [sm_zero]; rfl
  rw [sm_congr fun e _ => h e, sm_add, sm_add, sm_mul, sm_mul, sm_swap]
  unfold ent
  rw [Int.sub_zero]
  congr 1
  congr 1
  exact sm_congr fun b _ => by rw [sm_mul]
theorem ent_dl {k a : Nat} (s : Nat → Int) (more lost : Int) (h : a < k) : ent k s more lost (dl a) 0 = s a + (if a = k - 1 then lost else 0) := by
  unfold ent
  rw [sm_congr (g := fun b => if b = a then s b else 0) (fun i _ => by unfold dl; split <;> simp), sm_one, if_pos h]
  unfold dl
  rw [if_neg (by omega)]
  by_cases e : a = k - 1
  · rw [if_pos e, if_pos e.symm]; simp
  · rw [if_neg e, if_neg (fun z => e z.symm)]; simp
/-- the demanded slack's entries, from heads on -/
def en (L : Int) (fs : Nat → Int) (k : Nat) (s : Nat → Int) (more lost ret : Int) (a : Nat) : Int := ent k s more lost (pr L fs a) (if a = 0 then ret else 0)
theorem pr_succ (L : Int) (fs : Nat → Int) (a : Nat) : pr L fs (a + 1) = ld L fs a := by
  funext b
  unfold pr
  rw [if_neg (by omega)]
  rfl
theorem pr_z (L : Int) (fs : Nat → Int) : pr L fs 0 = hd L fs := by
  funext b
  unfold pr
  rw [if_pos rfl]
theorem en_zero (L : Int) (fs : Nat → Int) (k : Nat) (s : Nat → Int) (more lost ret : Int) : en L fs k s more lost ret 0 = ent k s more lost (hd L fs) ret := by
  unfold en
  rw [pr_z, if_pos rfl]
theorem en_succ (L : Int) (fs : Nat → Int) (k : Nat) (s : Nat → Int) (more lost ret : Int) (a : Nat) : en L fs k s more lost ret (a + 1) = ent k s more lost (ld L fs a) 0 := by
  unfold en
  rw [pr_succ, if_neg (by omega)]
/-- the rows from the top -/
theorem en_row {L : Int} {fs : Nat → Int} (ok : OkF fs) {k a : Nat} (s : Nat → Int) (more lost ret : Int) (ha : a < k) :
    en L fs k s more lost ret a = s a + L * en L fs k s more lost ret (a + 1) - (L - 1) * sm (fun e => if fs e = a then en L fs k s more lost ret (e + 1) else 0) k + (if a = k - 1 then lost else 0) - (if a = 0 then more * ret else 0) := by
  have h1 : en L fs k s more lost ret a = ent k s more lost (pr L fs a) 0 - (if a = 0 then more * ret else 0) := by
    unfold en
    rw [ent_e]
    by_cases h : a = 0
    · simp only [if_pos h]
    · simp only [if_neg h, Int.mul_zero]
  rw [h1, ent_congr (fun b hb => pr_eq ok ha b hb), ent_lin, ent_dl _ _ _ ha, ent_sm k s more lost (fun e => fs e = (a : Int)) (ld L fs) k, en_succ]
  rw [sm_congr (f := fun e => if fs e = (a : Int) then en L fs k s more lost ret (e + 1) else 0) (g := fun e => if fs e = (a : Int) then ent k s more lost (ld L fs e) 0 else 0) (fun e _ => by simp only [en_succ])]
  generalize sm (fun e => if fs e = (a : Int) then ent k s more lost (ld L fs e) 0 else 0) k = x
  generalize (if a = k - 1 then lost else 0) = y
  generalize (if a = 0 then more * ret else 0) = z
  generalize L * ent k s more lost (ld L fs a) 0 = w
  generalize (L - 1) * x = v
  omega
theorem en_top {L : Int} {fs : Nat → Int} (ok : OkF fs) {k : Nat} (s : Nat → Int) (more lost ret : Int) (hk : 0 < k) : en L fs k s more lost ret k = more := by
  obtain ⟨j, rfl⟩ : ∃ j, k = j + 1 := ⟨k - 1, by omega⟩
  rw [en_succ]
  unfold ent
  rw [sm_congr (g := fun _ => 0) (fun i hi => by rw [ld_zero ok i (by omega)]; simp), sm_zero, ld_one ok, Nat.add_sub_cancel, ld_zero ok j (Nat.le_refl _)]
  simp
/-- sizes -/
theorem pow12 {a b : Nat} (h : a ≤ b) : 12 ^ a ≤ 12 ^ b := Nat.pow_le_pow_right (by decide) h
theorem gv_bd {L : Int} {fs : Nat → Int} {x : Int} {ch : Nat → Int} (ok : OkF fs) (h1 : 0 ≤ L) (h2 : L ≤ 6) (hx : x.natAbs ≤ 1) (hc : ∀ i, (ch i).natAbs ≤ 1) : ∀ n, (gv L fs x ch n).natAbs ≤ 12 ^ n := by
  intro n
  induction n using Nat.strongRecOn with
  | _ n ih =>
    cases n with
    | zero => exact hx
    | succ m =>
      rw [gv_succ (ok m).2.1]
      have i1 := ih m (by omega)
      have i2 : (lowV (gv L fs x ch) (fs m)).natAbs ≤ 12 ^ m := by
        unfold lowV
        have := ok m
        split
        · exact Nat.zero_le _
        · exact Nat.le_trans (ih _ (by omega)) (pow12 (by omega))
      have i3 := hc m
      have p1 : 1 ≤ 12 ^ m := Nat.one_le_pow _ _ (by decide)
      rw [Nat.pow_succ]
      generalize 12 ^ m = B at *
      generalize gv L fs x ch m = g at *
      generalize lowV (gv L fs x ch) (fs m) = l at *
      generalize ch m = c at *
      have q1 : (L * g).natAbs ≤ 6 * B := by rw [Int.natAbs_mul]; exact Nat.mul_le_mul (by omega) i1
      have q2 : ((L - 1) * l).natAbs ≤ 5 * B := by rw [Int.natAbs_mul]; exact Nat.mul_le_mul (by omega) i2
      generalize L * g = u at *
      generalize (L - 1) * l = v at *
      omega
theorem ld_bd {L : Int} {fs : Nat → Int} (ok : OkF fs) (h1 : 0 ≤ L) (h2 : L ≤ 6) (a b : Nat) (hb : b ≤ 41) : (ld L fs a b).natAbs < 2 ^ 150 :=
  Nat.lt_of_le_of_lt (gv_bd ok h1 h2 (by decide) (fun i => by unfold dl; split <;> decide) b) (Nat.lt_of_le_of_lt (pow12 hb) (by decide))
theorem hd_bd {L : Int} {fs : Nat → Int} (ok : OkF fs) (h1 : 0 ≤ L) (h2 : L ≤ 6) (b : Nat) (hb : b ≤ 41) : (hd L fs b).natAbs < 2 ^ 150 :=
  Nat.lt_of_le_of_lt (gv_bd ok h1 h2 (by decide) (fun i => by decide) b) (Nat.lt_of_le_of_lt (pow12 hb) (by decide))
theorem pr_bd {L : Int} {fs : Nat → Int} (ok : OkF fs) (h1 : 0 ≤ L) (h2 : L ≤ 6) (a b : Nat) (hb : b ≤ 41) : (pr L fs a b).natAbs < 2 ^ 150 := by
  unfold pr
  split
  · exact hd_bd ok h1 h2 b hb
  · exact ld_bd ok h1 h2 _ b hb
theorem sm_bd {f : Nat → Int} {B : Nat} : ∀ {n : Nat}, (∀ i, i < n → (f i).natAbs ≤ B) → (sm f n).natAbs ≤ n * B
  | 0, _ => by simp [sm]
  | n + 1, h => by
    have h1 := sm_bd (n := n) fun i hi => h i (by omega)
    have h2 := h n (by omega)
    rw [sm, Nat.add_mul, Nat.one_mul]
    omega
theorem en_bd {L : Int} {fs : Nat → Int} (ok : OkF fs) (h1 : 0 ≤ L) (h2 : L ≤ 6) {k : Nat} {s : Nat → Int} {more lost ret : Int} (hk : k ≤ 40) (hs : ∀ i, i < k → (s i).natAbs ≤ 2 ^ 10) (hm : more.natAbs ≤ 2 ^ 40) (hl : lost.natAbs ≤ 2 ^ 40) (hr : ret.natAbs ≤ 1) (a : Nat) :
    (en L fs k s more lost ret a).natAbs < 2 ^ 200 := by
  unfold en ent
  have b := fun i hi => pr_bd (a := a) ok h1 h2 i hi
  generalize pr L fs a = v at *
  have q1 : (sm (fun b => s b * v b) k).natAbs ≤ k * (2 ^ 10 * 2 ^ 150) := sm_bd fun i hi => by
    rw [Int.natAbs_mul]
    exact Nat.mul_le_mul (hs i hi) (Nat.le_of_lt (b i (by omega)))
  have q2 : (more * (v k - if a = 0 then ret else 0)).natAbs ≤ 2 ^ 40 * 2 ^ 151 := by
    rw [Int.natAbs_mul]
    refine Nat.mul_le_mul hm ?_
    have := b k (by omega)
    split <;> omega
  have q3 : (lost * v (k - 1)).natAbs ≤ 2 ^ 40 * 2 ^ 150 := by
    rw [Int.natAbs_mul]
    exact Nat.mul_le_mul hl (Nat.le_of_lt (b _ (by omega)))
  generalize sm (fun b => s b * v b) k = x at *
  generalize (more * (v k - if a = 0 then ret else 0)) = y at *
  generalize lost * v (k - 1) = z at *
  have q4 : k * (2 ^ 10 * 2 ^ 150) ≤ 40 * (2 ^ 10 * 2 ^ 150) := Nat.mul_le_mul_right _ hk
  omega
/-- the greatest entry below 0, less one -/
def brk (es : Nat → Int) : Nat → Option Int
  | 0 => none
  | n + 1 => if es n < 0 then some ((n : Int) - 1) else brk es n
theorem brk_some {es : Nat → Int} : ∀ {n : Nat} {b : Int}, brk es n = some b → -1 ≤ b ∧ b < (n : Int) - 1 ∧ (0 : Int) ≤ b + 1
  | 0, b, h => by cases h
  | n + 1, b, h => by
    unfold brk at h
    split at h
    · cases h; omega
    · have := brk_some h; omega
theorem brk_congr {es fs : Nat → Int} : ∀ {n : Nat}, (∀ i, i < n → es i = fs i) → brk es n = brk fs n
  | 0, _ => rfl
  | n + 1, h => by unfold brk; rw [h n (by omega), brk_congr fun i hi => h i (by omega)]
end Ld

set_option Elab.async false
set_option linter.all false
set_option maxRecDepth 100000
set_option maxHeartbeats 4000000
namespace Ld
open PySem PySem.Spec PyProof.Rows L2 Rl Eg SX
def fn (fs : List Int) : Nat → Int := fun i => fs.getD i 0
theorem fn_at {fs : List Int} {i : Nat} {f : Int} (h : fs[i]? = some f) : fn fs i = f := by unfold fn; rw [List.getD_eq_getElem?_getD, h]; rfl
def rng (n : Nat) (f : Nat → Int) : List V := (List.range n).map fun i => V.int (f i)
theorem rng_len {n : Nat} {f : Nat → Int} : (rng n f).length = n := by simp [rng]
theorem rng_at {n i : Nat} {f : Nat → Int} (h : i < n) : (rng n f)[i]? = some (.int (f i)) := by unfold rng; rw [List.getElem?_map, List.getElem?_range h]; rfl
theorem rng_succ (n : Nat) (f : Nat → Int) : rng (n + 1) f = rng n f ++ [.int (f n)] := by unfold rng; rw [List.range_succ, List.map_append]; rfl
theorem rng_fn (fs : List Int) : fs.map V.int = rng fs.length (fn fs) := by
  apply List.ext_getElem?
  intro i
  by_cases h : i < fs.length
  · rw [rng_at h, List.getElem?_map, List.getElem?_eq_getElem h, ← fn_at (List.getElem?_eq_getElem h)]; rfl
  · rw [List.getElem?_eq_none (by rw [List.length_map]; omega), List.getElem?_eq_none (by rw [rng_len]; omega)]
theorem rng_congr {n : Nat} {f g : Nat → Int} (h : ∀ i, i < n → f i = g i) : rng n f = rng n g := List.map_congr_left fun i hi => by rw [h i (List.mem_range.mp hi)]
/-- an own list of whole numbers -/
def IL (H : Hp) (p : Addr) (n : Nat) (f : Nat → Int) : Prop := H p = some (.lst (rng n f))
theorem IL.same {H H' : Hp} {p : Addr} {n : Nat} {f : Nat → Int} (h : IL H p n f) (e : Same H H') : IL H' p n f := e _ _ h
theorem IL.sq {K : PySem.W.Frag} {H : Hp} {p : Addr} {n : Nat} {f : Nat → Int} (h : IL H p n f) : SqL K H p (rng n f) := .of h
theorem IL.of {H : Hp} {p : Addr} {xs : List V} {n : Nat} {f : Nat → Int} (h : H p = some (.lst xs)) (e : xs = rng n f) : IL H p n f := by unfold IL; rw [h, e]
theorem cutV_from (xs : List V) (m : Nat) (h : m ≤ xs.length) : cutV xs (some (m : Int)) none = xs.drop m := by
  unfold cutV
  rw [HT.sIx_nat, HT.sIx_none, Nat.min_eq_left h, List.take_of_length_le (by rw [List.length_drop]; omega)]
theorem rng_drop (n m : Nat) (f : Nat → Int) : (rng n f).drop m = rng (n - m) (fun j => f (m + j)) := by
  apply List.ext_getElem?
  intro i
  rw [List.getElem?_drop]
  by_cases h : i < n - m
  · rw [rng_at h, rng_at (by omega)]
  · rw [List.getElem?_eq_none (by rw [rng_len]; omega), List.getElem?_eq_none (by rw [rng_len]; omega)]
theorem rng_cut {n m : Nat} {f : Nat → Int} (h : m ≤ n) : cutV (rng n f) (some (m : Int)) none = rng (n - m) (fun j => f (m + j)) := by
  rw [cutV_from _ _ (by rw [rng_len]; exact h), rng_drop]
theorem il_ne {H : Hp} {q D : Addr} {m : Nat} {f : Nat → Int} {qs : List Addr} (h : IL H q (m + 1) f) (e : H D = some (.lst (qs.map V.ref))) : q ≠ D := by
  intro z
  subst z
  unfold IL at h
  rw [h] at e
  injection e with e
  injection e with e
  have h0 := congrArg (fun l : List V => l[0]?) e
  rw [rng_at (by omega), List.getElem?_map] at h0
  cases hq : qs[0]? with
  | none => rw [hq] at h0; cases h0
  | some z => rw [hq] at h0; cases h0
theorem g_truL {K : PySem.W.Frag} {H : Hp} {p : Addr} {xs : List V} {Q : Bool → Hp → Prop} (h : SqL K H p xs) (k : Q (!xs.isEmpty) H) : gTru K (.ref p) H Q := ⟨_, .inl ⟨xs, h, rfl⟩, k⟩
end Ld

set_option Elab.async false
set_option linter.all false
set_option maxRecDepth 100000
set_option maxHeartbeats 4000000
/-! ladders: what grows, newcomers, crowns, prices -/
namespace Ld
theorem gv_mono {L : Int} {fs : Nat → Int} {x : Int} {ch : Nat → Int} (ok : OkF fs) (h1 : 1 ≤ L) (hx : 0 ≤ x) (hc : ∀ i, 0 ≤ ch i) : ∀ n, 0 ≤ gv L fs x ch n ∧ ∀ m, m ≤ n → gv L fs x ch m ≤ gv L fs x ch n := by
  intro n
  induction n with
  | zero => exact ⟨hx, fun m hm => by rw [show m = 0 by omega]; exact Int.le_refl _⟩
  | succ n ih =>
    obtain ⟨i1, i2⟩ := ih
    have hl : lowV (gv L fs x ch) (fs n) ≤ gv L fs x ch n := by
      unfold lowV
      have := ok n
      split
      · exact i1
      · exact i2 _ (by omega)
    have hs : gv L fs x ch n ≤ gv L fs x ch (n + 1) := by
      rw [gv_succ (ok n).2.1]
      have := hc n
      generalize lowV (gv L fs x ch) (fs n) = l at *
      generalize gv L fs x ch n = g at *
      have q : 0 ≤ (L - 1) * (g - l) := Int.mul_nonneg (by omega) (by omega)
      have e : L * g - (L - 1) * l = g + (L - 1) * (g - l) := by grind
      omega
    refine ⟨by omega, fun m hm => ?_⟩
    by_cases e : m = n + 1
    · rw [e]; exact Int.le_refl _
    · have := i2 m (by omega)
      omega
theorem ld_nn {L : Int} {fs : Nat → Int} (ok : OkF fs) (h1 : 1 ≤ L) (a b : Nat) : 0 ≤ ld L fs a b := (gv_mono ok h1 (by decide) (fun i => by unfold dl; split <;> decide) b).1
theorem ld_up {L : Int} {fs : Nat → Int} (ok : OkF fs) (h1 : 1 ≤ L) {a k : Nat} (h : a < k) : 1 ≤ ld L fs a k := by
  have h2 : gv L fs 0 (dl a) (a + 1) ≤ gv L fs 0 (dl a) k := (gv_mono ok h1 (by decide) (fun i => by unfold dl; split <;> decide) k).2 (a + 1) h
  have h3 : gv L fs 0 (dl a) (a + 1) = 1 := ld_one ok a
  show 1 ≤ gv L fs 0 (dl a) k
  omega
theorem hd_up {L : Int} {fs : Nat → Int} (ok : OkF fs) (h1 : 1 ≤ L) {m n : Nat} (h : m ≤ n) : hd L fs m ≤ hd L fs n := (gv_mono (x := 1) ok h1 (by decide) (fun i => by decide) n).2 m h
theorem hd_pos {L : Int} {fs : Nat → Int} (ok : OkF fs) (h1 : 1 ≤ L) (n : Nat) : 1 ≤ hd L fs n := by
  have := hd_up ok h1 (Nat.zero_le n)
  exact this
theorem hd_all {L : Int} {fs : Nat → Int} (ok : OkF fs) {k : Nat} (h : ∀ i, i < k → 0 ≤ fs i) : ∀ b, b ≤ k → hd L fs b = 1 := by
  intro b
  induction b using Nat.strongRecOn with
  | _ b ih =>
    intro hb
    cases b with
    | zero => rfl
    | succ n =>
      have h1 := ih n (by omega) (by omega)
      have h2 : lowV (hd L fs) (fs n) = 1 := by
        unfold lowV
        have := ok n
        have := h n (by omega)
        rw [if_neg (by omega)]
        exact ih _ (by omega) (by omega)
      rw [hd_succ ok, h1, h2]
      omega
theorem hd_out {L : Int} {fs : Nat → Int} (ok : OkF fs) (h2 : 2 ≤ L) {i k : Nat} (hi : i < k) (ho : fs i = -1) : 2 ≤ hd L fs k := by
  have h1 := hd_up (L := L) ok (by omega) (show i + 1 ≤ k by omega)
  have h3 := hd_pos (L := L) ok (by omega) i
  have h4 : lowV (hd L fs) (fs i) = 0 := by unfold lowV; rw [if_pos (by omega)]
  rw [hd_succ ok, h4, Int.mul_zero, Int.sub_zero] at h1
  have h5 : 2 * 1 ≤ L * hd L fs i := Int.mul_le_mul h2 h3 (by decide) (by omega)
  omega
theorem sm_nn {f : Nat → Int} : ∀ {n : Nat}, (∀ i, i < n → 0 ≤ f i) → 0 ≤ sm f n
  | 0, _ => by simp [sm]
  | n + 1, h => by
    have h1 := sm_nn (n := n) fun i hi => h i (by omega)
    have h2 := h n (by omega)
    rw [sm]
    omega
theorem wd_eq {L : Int} {fs : Nat → Int} (ok : OkF fs) {k : Nat} : ∀ b, b ≤ k → gv L fs 0 (fun _ => 1) b = sm (fun a => ld L fs a b) k := by
  intro b
  induction b using Nat.strongRecOn with
  | _ b ih =>
    intro hb
    cases b with
    | zero => rw [sm_congr (g := fun _ => 0) (fun i _ => ld_zero ok 0 (by omega)), sm_zero]; rfl
    | succ n =>
      have i1 := ih n (by omega) (by omega)
      have i2 : lowV (gv L fs 0 (fun _ => 1)) (fs n) = sm (fun a => lowV (ld L fs a) (fs n)) k := by
        rw [← lowV_sm]
        exact lowV_congr fun i hi => ih i (by have := (ok n).2.1; omega) (by have := (ok n).2.1; omega)
      have i3 : sm (fun a => dl a n) k = 1 := by
        rw [sm_congr (g := fun a => if a = n then 1 else 0) (fun i _ => by unfold dl; by_cases h : n = i; { rw [if_pos h, if_pos h.symm] }; { rw [if_neg h, if_neg (fun z => h z.symm)] }), sm_one n (fun _ => 1), if_pos (by omega)]
      rw [gv_succ (ok n).2.1, i1, i2, sm_congr (g := fun a => (L * ld L fs a n - (L - 1) * lowV (ld L fs a) (fs n)) + dl a n) (fun a _ => ld_succ ok a n), sm_add, sm_sub, sm_mul, sm_mul, i3]
theorem pr_0 (L : Int) (fs : Nat → Int) (ok : OkF fs) (a : Nat) : pr L fs a 0 = if a = 0 then 1 else 0 := by
  unfold pr
  split
  · rfl
  · exact ld_zero ok 0 (by omega)
theorem pr_nn {L : Int} {fs : Nat → Int} (ok : OkF fs) (h1 : 1 ≤ L) (a b : Nat) : 0 ≤ pr L fs a b := by
  unfold pr
  split
  · have := hd_pos ok h1 b; omega
  · exact ld_nn ok h1 _ _
/-- more players on rung 0 -/
theorem en_add {L : Int} {fs : Nat → Int} (ok : OkF fs) {k : Nat} (hk : 0 < k) {s s' : Nat → Int} {t : Int} (hs : ∀ b, b < k → s' b = s b - (if b = 0 then t else 0)) (more lost ret : Int) (a : Nat) :
    en L fs k s' more lost ret a = en L fs k s more lost ret a - (if a = 0 then t else 0) := by
  unfold en ent
  have h : sm (fun b => s' b * pr L fs a b) k = sm (fun b => s b * pr L fs a b) k - (if a = 0 then t else 0) := by
    rw [sm_congr (g := fun b => s b * pr L fs a b - (if b = 0 then t * pr L fs a b else 0)) (fun b hb => by rw [hs b hb]; split <;> grind), sm_sub, sm_one 0 (fun b => t * pr L fs a b), if_pos hk, pr_0 L fs ok]
    split <;> simp
  rw [h]
  omega
theorem en_nn {L : Int} {fs : Nat → Int} (ok : OkF fs) (h1 : 1 ≤ L) {k : Nat} {s : Nat → Int} {more lost ret : Int} (hs : ∀ b, b < k → 0 ≤ s b) (hm : 0 ≤ more) (hl : 0 ≤ lost) (hr : ret ≤ 1) (a : Nat) : 0 ≤ en L fs k s more lost ret a := by
  unfold en ent
  have q1 : 0 ≤ sm (fun b => s b * pr L fs a b) k := sm_nn fun i hi => Int.mul_nonneg (hs i hi) (pr_nn ok h1 _ _)
  have q2 : 0 ≤ more * (pr L fs a k - if a = 0 then ret else 0) := by
    refine Int.mul_nonneg hm ?_
    have := pr_nn ok h1 a k
    split
    · rename_i h
      subst h
      rw [pr_z]
      have := hd_pos ok h1 k
      omega
    · omega
  have q3 : 0 ≤ lost * pr L fs a (k - 1) := Int.mul_nonneg hl (pr_nn ok h1 _ _)
  omega
/-- what one crown more costs -/
def cst (L : Int) (fs : Nat → Int) (k : Nat) (ret : Int) (a : Nat) : Int := pr L fs a k - if a = 0 then ret else 0
theorem en_crown (L : Int) (fs : Nat → Int) (k : Nat) (s : Nat → Int) (more m lost ret : Int) (a : Nat) : en L fs k s (more + m) lost ret a = en L fs k s more lost ret a + m * cst L fs k ret a := by
  unfold en ent cst
  rw [Int.add_mul]
  omega
theorem en_lost (L : Int) (fs : Nat → Int) (k : Nat) (s : Nat → Int) (more lost m ret : Int) (a : Nat) : en L fs k s more (lost + m) ret a = en L fs k s more lost ret a + m * pr L fs a (k - 1) := by
  unfold en ent
  rw [Int.add_mul]
  omega
theorem cst_nn {L : Int} {fs : Nat → Int} (ok : OkF fs) (h1 : 1 ≤ L) {k : Nat} {ret : Int} (hr : ret ≤ 1) (a : Nat) : 0 ≤ cst L fs k ret a := by
  unfold cst
  have := pr_nn ok h1 a k
  split
  · rename_i h
    subst h
    rw [pr_z]
    have := hd_pos ok h1 k
    omega
  · omega
theorem cst_up {L : Int} {fs : Nat → Int} (ok : OkF fs) (h1 : 1 ≤ L) {k : Nat} {ret : Int} {a : Nat} (ha : 0 < a) (hk : a ≤ k) : 1 ≤ cst L fs k ret a := by
  unfold cst
  rw [if_neg (by omega)]
  unfold pr
  rw [if_neg (by omega)]
  have := ld_up (L := L) ok h1 (show a - 1 < k by omega)
  omega
/-- which entry is below 0 -/
theorem brk_none {es : Nat → Int} : ∀ {n : Nat}, brk es n = none ↔ ∀ i, i < n → 0 ≤ es i
  | 0 => ⟨fun _ _ h => by omega, fun _ => rfl⟩
  | n + 1 => by
    unfold brk
    have ih := brk_none (es := es) (n := n)
    by_cases h : es n < 0
    · rw [if_pos h]
      constructor
      · intro z
        cases z
      · intro z
        have := z n (by omega)
        omega
    · rw [if_neg h, ih]
      constructor
      · intro z i hi
        by_cases e : i = n
        · rw [e]; omega
        · exact z i (by omega)
      · intro z i hi
        exact z i (by omega)
theorem brk_neg {es : Nat → Int} {n i : Nat} (hi : i < n) (h : es i < 0) : ∃ b, brk es n = some b := by
  cases hb : brk es n with
  | none => have := brk_none.mp hb i hi; omega
  | some b => exact ⟨b, rfl⟩
theorem brk_one {es : Nat → Int} : ∀ {n : Nat}, 0 < n → es 0 < 0 → (∀ i, 0 < i → i < n → 0 ≤ es i) → brk es n = some (-1)
  | 0, h, _, _ => by omega
  | n + 1, _, h0, h => by
    unfold brk
    by_cases e : n = 0
    · subst e
      rw [if_pos h0]
      rfl
    · have := h n (by omega) (by omega)
      rw [if_neg (by omega)]
      exact brk_one (by omega) h0 fun i h1 h2 => h i h1 (by omega)
/-- the meetings left where all rungs above are full -/
theorem left_sum {L : Int} {fs : Nat → Int} (ok : OkF fs) {k : Nat} (s : Nat → Int) (more lost ret : Int) : sm (fun j => en L fs k s more lost ret (1 + j) + 1) k = (k : Int) + sm (fun b => s b * gv L fs 0 (fun _ => 1) b) k + more * gv L fs 0 (fun _ => 1) k + lost * gv L fs 0 (fun _ => 1) (k - 1) := by
  have h1 : ∀ n : Nat, sm (fun _ => (1 : Int)) n = n := fun n => by
    induction n with
    | zero => rfl
    | succ n ih => rw [sm, ih]; rfl
  rw [sm_add, h1, sm_congr (g := fun j => (sm (fun b => s b * ld L fs j b) k + more * ld L fs j k) + lost * ld L fs j (k - 1)) (fun j _ => by rw [Nat.add_comm, en_succ]; unfold ent; rw [Int.sub_zero]), sm_add, sm_add, sm_mul, sm_mul, sm_swap, ← wd_eq ok k (Nat.le_refl k), ← wd_eq ok (k - 1) (by omega)]
  rw [sm_congr (f := fun b => s b * gv L fs 0 (fun _ => 1) b) (g := fun b => sm (fun j => s b * ld L fs j b) k) (fun b hb => by rw [sm_mul, ← wd_eq ok b (by omega)])]
  omega
/-- rounding up -/
theorem ceil_spec {e c : Int} (he : e < 0) (hc : 0 < c) : 0 ≤ e + ((-1 - e) / c + 1) * c ∧ e + ((-1 - e) / c) * c < 0 ∧ 0 ≤ (-1 - e) / c := by
  have h1 := Int.emod_add_mul_ediv (-1 - e) c
  have h2 := Int.emod_nonneg (-1 - e) (show c ≠ 0 by omega)
  have h3 := Int.emod_lt_of_pos (-1 - e) hc
  have h4 : 0 ≤ (-1 - e) / c := Int.ediv_nonneg (by omega) (by omega)
  generalize (-1 - e) / c = q at *
  generalize (-1 - e) % c = r at *
  have h5 : (q + 1) * c = c * q + c := by grind
  have h6 : q * c = c * q := Int.mul_comm _ _
  rw [h5, h6]
  exact ⟨by omega, by omega, h4⟩
end Ld

set_option Elab.async false
set_option linter.all false
set_option maxRecDepth 100000
set_option maxHeartbeats 4000000
/-! rounds with late news -/
namespace Rd
open Ld
/-- so many come to a from one meeting on e -/
def wg (L : Int) (n : Nat) (fs : Nat → Int) (ret : Bool) (a e : Nat) : Int := (if e + 1 = a then 1 else 0) + (if e + 1 = n ∧ ret = true ∧ a = 0 then 1 else 0) + (if fs e = (a : Int) then L - 1 else 0)
def arr (L : Int) (n : Nat) (fs : Nat → Int) (ret : Bool) (kn : Nat → Int) (a : Nat) : Int := sm (fun e => wg L n fs ret a e * kn e) n
def stp (L : Int) (n : Nat) (fs : Nat → Int) (ret : Bool) (c kn : Nat → Int) (a : Nat) : Int := (c a + arr L n fs ret kn a) / L
def rws (L : Int) (n : Nat) (fs : Nat → Int) (ret : Bool) (c : Nat → Int) (late : Nat) : Nat → Nat → Int
  | 0 => fun _ => 0
  | t + 1 => stp L n fs ret c (rws L n fs ret c late (t - late))
termination_by t => t
decreasing_by omega
section
variable {L : Int} {n : Nat} {fs : Nat → Int} {ret : Bool} {c : Nat → Int} {late : Nat}
theorem rws_zero : rws L n fs ret c late 0 = fun _ => 0 := by rw [rws]
theorem rws_succ (t : Nat) : rws L n fs ret c late (t + 1) = stp L n fs ret c (rws L n fs ret c late (t - late)) := by rw [rws]
theorem arr_congr {k1 k2 : Nat → Int} {a : Nat} (h : ∀ e, e < n → k1 e = k2 e) : arr L n fs ret k1 a = arr L n fs ret k2 a := sm_congr fun e he => by rw [h e he]
theorem wg_nn (h1 : 1 ≤ L) (a e : Nat) : 0 ≤ wg L n fs ret a e := by
  unfold wg
  split <;> split <;> split <;> omega
theorem sm_le {f g : Nat → Int} : ∀ {n : Nat}, (∀ i, i < n → f i ≤ g i) → sm f n ≤ sm g n
  | 0, _ => Int.le_refl _
  | n + 1, h => by
    have := sm_le (f := f) (g := g) (n := n) fun i hi => h i (by omega)
    have h2 := h n (by omega)
    unfold sm
    omega
theorem arr_mono (h1 : 1 ≤ L) {k1 k2 : Nat → Int} {a : Nat} (h : ∀ e, e < n → k1 e ≤ k2 e) : arr L n fs ret k1 a ≤ arr L n fs ret k2 a :=
  sm_le fun e he => Int.mul_le_mul_of_nonneg_left (h e he) (wg_nn h1 a e)
theorem arr_nn (h1 : 1 ≤ L) {k1 : Nat → Int} {a : Nat} (h : ∀ e, e < n → 0 ≤ k1 e) : 0 ≤ arr L n fs ret k1 a := sm_nn fun e he => Int.mul_nonneg (wg_nn h1 a e) (h e he)
theorem stp_mono (h1 : 1 ≤ L) {k1 k2 : Nat → Int} {a : Nat} (h : ∀ e, e < n → k1 e ≤ k2 e) : stp L n fs ret c k1 a ≤ stp L n fs ret c k2 a :=
  Int.ediv_le_ediv (by omega) (by have := arr_mono (ret := ret) (fs := fs) (a := a) h1 h; omega)
theorem stp_congr {k1 k2 : Nat → Int} {a : Nat} (h : ∀ e, e < n → k1 e = k2 e) : stp L n fs ret c k1 a = stp L n fs ret c k2 a := by
  unfold stp
  rw [arr_congr h]
theorem stp_nn (h1 : 1 ≤ L) {k1 : Nat → Int} {a : Nat} (hc : 0 ≤ c a) (h : ∀ e, e < n → 0 ≤ k1 e) : 0 ≤ stp L n fs ret c k1 a :=
  Int.ediv_nonneg (by have := arr_nn (ret := ret) (fs := fs) (a := a) h1 h; omega) (by omega)
theorem rws_nn (h1 : 1 ≤ L) (hc : ∀ i, i < n → 0 ≤ c i) : ∀ t a, a < n → 0 ≤ rws L n fs ret c late t a := by
  intro t
  induction t using Nat.strongRecOn with
  | _ t ih =>
    intro a ha
    cases t with
    | zero => rw [rws_zero]; exact Int.le_refl 0
    | succ t =>
      rw [rws_succ]
      exact stp_nn h1 (hc a ha) fun e he => ih (t - late) (by omega) e he
theorem rws_step (h1 : 1 ≤ L) (hc : ∀ i, i < n → 0 ≤ c i) : ∀ t a, a < n → rws L n fs ret c late t a ≤ rws L n fs ret c late (t + 1) a := by
  intro t
  induction t using Nat.strongRecOn with
  | _ t ih =>
    intro a ha
    cases t with
    | zero =>
      have := rws_nn (late := late) (fs := fs) (ret := ret) h1 hc 1 a ha
      rw [rws_zero]
      exact this
    | succ t =>
      rw [rws_succ, rws_succ (t + 1)]
      refine stp_mono h1 fun e he => ?_
      by_cases h : t < late
      · rw [show t - late = 0 by omega, show t + 1 - late = 0 by omega]
        exact Int.le_refl _
      · rw [show t + 1 - late = (t - late) + 1 by omega]
        exact ih (t - late) (by omega) e he
theorem rws_mono (h1 : 1 ≤ L) (hc : ∀ i, i < n → 0 ≤ c i) {a : Nat} (ha : a < n) : ∀ {t s : Nat}, t ≤ s → rws L n fs ret c late t a ≤ rws L n fs ret c late s a := by
  intro t s h
  obtain ⟨d, rfl⟩ := Nat.exists_eq_add_of_le h
  induction d with
  | zero => exact Int.le_refl _
  | succ d ih => exact Int.le_trans (ih (by omega)) (rws_step h1 hc (t + d) a ha)
/-- where the rows of a round and of the round behind the news are equal, all stand still -/
theorem rws_still (h1 : 1 ≤ L) (hc : ∀ i, i < n → 0 ≤ c i) {m : Nat} (h : ∀ a, a < n → rws L n fs ret c late (m + late + 1) a = rws L n fs ret c late m a) : ∀ j, m ≤ j → ∀ a, a < n → rws L n fs ret c late j a = rws L n fs ret c late m a := by
  intro j
  induction j using Nat.strongRecOn with
  | _ j ih =>
    intro hj a ha
    by_cases h2 : j ≤ m + late + 1
    · have u := rws_mono (fs := fs) (ret := ret) (late := late) h1 hc ha hj
      have v := rws_mono (fs := fs) (ret := ret) (late := late) h1 hc ha h2
      have w := h a ha
      omega
    · obtain ⟨i, rfl⟩ : ∃ i, j = i + 1 := ⟨j - 1, by omega⟩
      rw [← h a ha, rws_succ, rws_succ (m + late), show m + late - late = m by omega]
      exact stp_congr fun e he => ih (i - late) (by omega) (by omega) e he
/-- a bound, crude -/
theorem wg_bd (h0 : 0 ≤ L) (h6 : L ≤ 6) (a e : Nat) : (wg L n fs ret a e).natAbs ≤ 8 := by
  unfold wg
  split <;> split <;> split <;> omega
theorem rws_bd (h0 : 0 < L) (h6 : L ≤ 6) (n4 : n ≤ 4) (hc : ∀ i, i < n → (c i).natAbs < 2 ^ 110) : ∀ t a, a < n → (rws L n fs ret c late t a).natAbs < 2 ^ (110 + 6 * t) := by
  intro t
  induction t using Nat.strongRecOn with
  | _ t ih =>
    intro a ha
    cases t with
    | zero => rw [rws_zero]; exact Nat.pow_pos (by decide)
    | succ t =>
      rw [rws_succ]
      have hk : ∀ e, e < n → (rws L n fs ret c late (t - late) e).natAbs ≤ 2 ^ (110 + 6 * t) := fun e he => Nat.le_of_lt (Nat.lt_of_lt_of_le (ih (t - late) (by omega) e he) (Nat.pow_le_pow_right (by decide) (by omega)))
      have h2 : (arr L n fs ret (rws L n fs ret c late (t - late)) a).natAbs ≤ 4 * (8 * 2 ^ (110 + 6 * t)) := by
        refine Nat.le_trans (sm_bd (B := 8 * 2 ^ (110 + 6 * t)) fun e he => ?_) (Nat.mul_le_mul_right _ n4)
        rw [Int.natAbs_mul]
        exact Nat.mul_le_mul (wg_bd (by omega) h6 a e) (hk e he)
      have h3 : 2 ^ 110 ≤ 2 ^ (110 + 6 * t) := Nat.pow_le_pow_right (by decide) (by omega)
      have h4 := hc a ha
      have h5 : (c a + arr L n fs ret (rws L n fs ret c late (t - late)) a).natAbs < 33 * 2 ^ (110 + 6 * t) := by omega
      have h6' : (stp L n fs ret c (rws L n fs ret c late (t - late)) a).natAbs ≤ (c a + arr L n fs ret (rws L n fs ret c late (t - late)) a).natAbs := by
        unfold stp
        exact Int.natAbs_ediv_le_natAbs _ _
      have h7 : 2 ^ (110 + 6 * (t + 1)) = 64 * 2 ^ (110 + 6 * t) := by rw [show 110 + 6 * (t + 1) = (110 + 6 * t) + 6 by omega, Nat.pow_add, Nat.mul_comm]
      rw [h7]
      omega
/-- the law's sum -/
theorem sm_pick (a : Nat) (x : Nat → Int) (n : Nat) (h : a < n) : sm (fun e => (if e = a then 1 else 0) * x e) n = x a := by
  have := sm_one a x n
  rw [if_pos h] at this
  rw [← this]
  exact sm_congr fun i hi => by split <;> simp
theorem arr_law (n0 : 0 < n) {kn : Nat → Int} {a : Nat} (ha : a < n) : arr L n fs ret kn a = (if 0 < a then kn (a - 1) else 0) + sm (fun e => if fs e = (a : Int) then (L - 1) * kn e else 0) n + (if a = 0 ∧ ret = true then kn (n - 1) else 0) := by
  unfold arr
  have e1 : ∀ e, wg L n fs ret a e * kn e = ((if e + 1 = a then 1 else 0) * kn e + (if e + 1 = n ∧ ret = true ∧ a = 0 then 1 else 0) * kn e) + (if fs e = (a : Int) then (L - 1) * kn e else 0) := fun e => by
    unfold wg
    rw [Int.add_mul, Int.add_mul]
    congr 1
    split <;> simp
  rw [show (fun e => wg L n fs ret a e * kn e) = _ from funext e1, sm_add, sm_add]
  have h1 : sm (fun e => (if e + 1 = a then 1 else 0) * kn e) n = if 0 < a then kn (a - 1) else 0 := by
    by_cases h : 0 < a
    · rw [if_pos h, ← sm_pick (a - 1) kn n (by omega)]
      exact sm_congr fun e he => by
        by_cases h2 : e + 1 = a
        · rw [if_pos h2, if_pos (by omega)]
        · rw [if_neg h2, if_neg (by omega)]
    · rw [if_neg h]
      exact Eq.trans (sm_congr (g := fun _ => 0) fun e he => by rw [if_neg (show ¬ e + 1 = a by omega), Int.zero_mul]) (sm_zero n)
  have h2 : sm (fun e => (if e + 1 = n ∧ ret = true ∧ a = 0 then 1 else 0) * kn e) n = if a = 0 ∧ ret = true then kn (n - 1) else 0 := by
    by_cases h : a = 0 ∧ ret = true
    · rw [if_pos h, ← sm_pick (n - 1) kn n (by omega)]
      exact sm_congr fun e he => by
        by_cases h2 : e + 1 = n
        · rw [if_pos ⟨h2, h.2, h.1⟩, if_pos (by omega)]
        · rw [if_neg (fun z => h2 z.1), if_neg (by omega)]
    · rw [if_neg h]
      exact Eq.trans (sm_congr (g := fun _ => 0) fun e he => by rw [if_neg (show ¬ (e + 1 = n ∧ ret = true ∧ a = 0) from fun z => h ⟨z.2.2, z.2.1⟩), Int.zero_mul]) (sm_zero n)
  rw [h1, h2]
  omega
/-- the answer of the search for a round with so many crowns -/
inductive Ans where
  | round (t : Nat) | never (t : Nat) | none
/-- by the program: the first turn at which it ends -/
structure PrA (f : Nat → Nat → Int) (n late : Nat) (cr : Int) (k : Nat) : Prop where
  lt : ∀ j, j < k → f (j + 1) (n - 1) < cr
  ne : ∀ j, j < k → late ≤ j → ∃ a, a < n ∧ f (j - late) a ≠ f (j + 1) a
def PrR (f : Nat → Nat → Int) (n late : Nat) (cr : Int) : Ans → Prop
  | .round t => ∃ k, t = k + 1 ∧ k < 300 ∧ PrA f n late cr k ∧ cr ≤ f (k + 1) (n - 1)
  | .never t => ∃ k, t = k - late ∧ k < 300 ∧ late ≤ k ∧ PrA f n late cr k ∧ f (k + 1) (n - 1) < cr ∧ ∀ a, a < n → f (k - late) a = f (k + 1) a
  | .none => PrA f n late cr 300
/-- by the law -/
structure LwA (f : Nat → Nat → Int) (n late : Nat) (cr : Int) (k : Nat) : Prop where
  lt : ∀ j, j < k → f j (n - 1) < cr
  ne : ∀ j, j < k → j + late + 1 < 301 → ∃ a, a < n ∧ f (j + late + 1) a ≠ f j a
def LwR (f : Nat → Nat → Int) (n late : Nat) (cr : Int) : Ans → Prop
  | .round t => t < 301 ∧ LwA f n late cr t ∧ cr ≤ f t (n - 1)
  | .never t => t < 301 ∧ LwA f n late cr t ∧ f t (n - 1) < cr ∧ t + late + 1 < 301 ∧ ∀ a, a < n → f (t + late + 1) a = f t a
  | .none => LwA f n late cr 301
theorem ans_eq (h1 : 1 ≤ L) (hc : ∀ i, i < n → 0 ≤ c i) (n0 : 0 < n) {cr : Int} (c1 : 1 ≤ cr) {R S : Ans} (hR : PrR (rws L n fs ret c late) n late cr R) (hS : LwR (rws L n fs ret c late) n late cr S) : R = S := by
  have hm : ∀ {t s : Nat}, t ≤ s → rws L n fs ret c late t (n - 1) ≤ rws L n fs ret c late s (n - 1) := fun h => rws_mono h1 hc (by omega) h
  have hst : ∀ {m}, (∀ a, a < n → rws L n fs ret c late (m + late + 1) a = rws L n fs ret c late m a) → ∀ j, m ≤ j → ∀ a, a < n → rws L n fs ret c late j a = rws L n fs ret c late m a := fun h => rws_still h1 hc h
  have hz : rws L n fs ret c late 0 (n - 1) = 0 := by rw [rws_zero]
  generalize rws L n fs ret c late = f at *
  cases R with
  | round t =>
    obtain ⟨k, rfl, hk, ⟨p1, p2⟩, p3⟩ := hR
    cases S with
    | round s =>
      obtain ⟨q0, ⟨q1, q2⟩, q3⟩ := hS
      by_cases h : k + 1 < s
      · have := q1 _ h; omega
      · by_cases h2 : s < k + 1
        · have hs0 : s ≠ 0 := fun z => by rw [z, hz] at q3; omega
          have := p1 (s - 1) (by omega)
          rw [show s - 1 + 1 = s by omega] at this
          omega
        · rw [show s = k + 1 by omega]
    | never s =>
      obtain ⟨q0, ⟨q1, q2⟩, q3, q4, q5⟩ := hS
      exfalso
      by_cases h : k + 1 ≤ s
      · have := hm h; omega
      · have := hst q5 (k + 1) (by omega) (n - 1) (by omega)
        omega
    | none =>
      have := hS.lt (k + 1) (by omega)
      omega
  | never t =>
    obtain ⟨k, rfl, hk, hl, ⟨p1, p2⟩, p3, p4⟩ := hR
    have p5 : ∀ a, a < n → f (k - late + late + 1) a = f (k - late) a := fun a ha => by rw [show k - late + late + 1 = k + 1 by omega]; exact (p4 a ha).symm
    cases S with
    | round s =>
      obtain ⟨q0, ⟨q1, q2⟩, q3⟩ := hS
      exfalso
      by_cases h : s ≤ k + 1
      · have := hm h; omega
      · have e1 := hst p5 s (by omega) (n - 1) (by omega)
        have e2 := hst p5 (k + 1) (by omega) (n - 1) (by omega)
        omega
    | never s =>
      obtain ⟨q0, ⟨q1, q2⟩, q3, q4, q5⟩ := hS
      congr 1
      by_cases h : s < k - late
      · obtain ⟨a, ha, hne⟩ := p2 (s + late) (by omega) (by omega)
        rw [show s + late - late = s by omega] at hne
        exact absurd (q5 a ha).symm hne
      · by_cases h2 : k - late < s
        · obtain ⟨a, ha, hne⟩ := q2 (k - late) h2 (by omega)
          exact absurd (p5 a ha) hne
        · omega
    | none =>
      obtain ⟨a, ha, hne⟩ := hS.ne (k - late) (by omega) (by omega)
      exact absurd (p5 a ha) hne
  | none =>
    cases S with
    | round s =>
      obtain ⟨q0, ⟨q1, q2⟩, q3⟩ := hS
      exfalso
      have hs0 : s ≠ 0 := fun z => by rw [z, hz] at q3; omega
      have := hR.lt (s - 1) (by omega)
      rw [show s - 1 + 1 = s by omega] at this
      omega
    | never s =>
      obtain ⟨q0, ⟨q1, q2⟩, q3, q4, q5⟩ := hS
      exfalso
      obtain ⟨a, ha, hne⟩ := hR.ne (s + late) (by omega) (by omega)
      rw [show s + late - late = s by omega] at hne
      exact absurd (q5 a ha).symm hne
    | none => rfl
/-- players: how many stand on b, known by then -/
def cnt (R Kn : Nat → Int) (m : Nat) (b : Int) (T : Nat) : Int := sm (fun i => if R i = b ∧ Kn i ≤ (T : Int) then 1 else 0) m
theorem cnt_set {R Kn : Nat → Int} {m : Nat} {b : Int} {T i : Nat} (hi : i < m) (g k : Int) : cnt (fun j => if j = i then g else R j) (fun j => if j = i then k else Kn j) m b T = cnt R Kn m b T - (if R i = b ∧ Kn i ≤ (T : Int) then 1 else 0) + (if g = b ∧ k ≤ (T : Int) then 1 else 0) := by
  have key : ∀ m, cnt (fun j => if j = i then g else R j) (fun j => if j = i then k else Kn j) m b T = cnt R Kn m b T - (if i < m then (if R i = b ∧ Kn i ≤ (T : Int) then 1 else 0) else 0) + (if i < m then (if g = b ∧ k ≤ (T : Int) then 1 else 0) else 0) := by
    intro m
    unfold cnt
    induction m with
    | zero => rw [if_neg (by omega), if_neg (by omega)]; rfl
    | succ m ih =>
      rw [sm, sm, ih]
      by_cases h : m = i
      · subst h
        rw [if_neg (Nat.lt_irrefl m), if_neg (Nat.lt_irrefl m), if_pos (Nat.lt_succ_self m), if_pos (Nat.lt_succ_self m)]
        show _ + (if (if m = m then g else R m) = b ∧ (if m = m then k else Kn m) ≤ (T : Int) then (1 : Int) else 0) = _
        rw [if_pos rfl, if_pos rfl]
        generalize (if g = b ∧ k ≤ (T : Int) then (1 : Int) else 0) = x
        show _ = _ + (if R m = b ∧ Kn m ≤ (T : Int) then (1 : Int) else 0) - _ + x
        generalize (if R m = b ∧ Kn m ≤ (T : Int) then (1 : Int) else 0) = y
        omega
      · show _ + (if (if m = i then g else R m) = b ∧ (if m = i then k else Kn m) ≤ (T : Int) then (1 : Int) else 0) = _
        rw [if_neg h, if_neg h]
        have e : (i < m + 1) = (i < m) := propext (by omega)
        simp only [e]
        generalize (if i < m then (if g = b ∧ k ≤ (T : Int) then (1 : Int) else 0) else 0) = x
        generalize (if i < m then (if R i = b ∧ Kn i ≤ (T : Int) then (1 : Int) else 0) else 0) = y
        generalize (if R m = b ∧ Kn m ≤ (T : Int) then (1 : Int) else 0) = z
        omega
  rw [key, if_pos hi, if_pos hi]
/-- where the winner, a loser goes -/
def goes (n : Nat) (fs : Nat → Int) (ret : Bool) (a : Nat) (win : Bool) : Int := if win then (if a + 1 = n then (if ret then 0 else 0 - 1) else (a : Int) + 1) else fs a
/-- what one meeting brings -/
theorem goes_wg {a b : Nat} (j w : Nat) : sm (fun q => if goes n fs ret a (decide (q = w)) = (b : Int) then 1 else 0) j = (if w < j then (if goes n fs ret a true = (b : Int) then 1 else 0) else 0) + (if fs a = (b : Int) then (j : Int) - (if w < j then 1 else 0) else 0) := by
  induction j with
  | zero =>
    rw [if_neg (show ¬ w < 0 by omega), if_neg (show ¬ w < 0 by omega)]
    show (0 : Int) = 0 + _
    split <;> omega
  | succ j ih =>
    rw [sm, ih]
    by_cases h1 : w < j
    · have e : decide (j = w) = false := decide_eq_false (by omega)
      rw [if_pos h1, if_pos h1, if_pos (show w < j + 1 by omega), if_pos (show w < j + 1 by omega)]
      show _ + (if goes n fs ret a (decide (j = w)) = (b : Int) then (1 : Int) else 0) = _
      rw [e]
      show _ + (if fs a = (b : Int) then (1 : Int) else 0) = _
      generalize (if goes n fs ret a true = (b : Int) then (1 : Int) else 0) = x
      split <;> omega
    · rw [if_neg h1, if_neg h1]
      by_cases h2 : j = w
      · subst h2
        rw [if_pos (Nat.lt_succ_self j), if_pos (Nat.lt_succ_self j)]
        show _ + (if goes n fs ret a (decide (j = j)) = (b : Int) then (1 : Int) else 0) = _
        rw [decide_eq_true rfl]
        generalize (if goes n fs ret a true = (b : Int) then (1 : Int) else 0) = x
        split <;> omega
      · have e : decide (j = w) = false := decide_eq_false h2
        rw [if_neg (show ¬ w < j + 1 by omega), if_neg (show ¬ w < j + 1 by omega)]
        show _ + (if goes n fs ret a (decide (j = w)) = (b : Int) then (1 : Int) else 0) = _
        rw [e]
        show _ + (if fs a = (b : Int) then (1 : Int) else 0) = _
        split <;> omega
theorem goes_all {a b : Nat} (ha : a < n) (hb : b < n) {w Ln : Nat} (hw : w < Ln) : sm (fun q => if goes n fs ret a (decide (q = w)) = (b : Int) then 1 else 0) Ln = wg (Ln : Int) n fs ret b a := by
  rw [goes_wg, if_pos hw, if_pos hw]
  unfold wg
  have e : (if goes n fs ret a true = (b : Int) then (1 : Int) else 0) = (if a + 1 = b then 1 else 0) + (if a + 1 = n ∧ ret = true ∧ b = 0 then 1 else 0) := by
    show (if (if a + 1 = n then (if ret then (0 : Int) else 0 - 1) else (a : Int) + 1) = (b : Int) then (1 : Int) else 0) = _
    by_cases h : a + 1 = n
    · rw [if_pos h, if_neg (show ¬ a + 1 = b by omega)]
      cases ret with
      | true =>
        by_cases h2 : b = 0
        · subst h2; rw [if_pos (show a + 1 = n ∧ true = true ∧ (0 : Nat) = 0 from ⟨h, rfl, rfl⟩)]; rfl
        · rw [if_pos rfl, if_neg (show ¬ (0 : Int) = (b : Int) by omega), if_neg (show ¬ (a + 1 = n ∧ true = true ∧ b = 0) from fun z => h2 z.2.2)]; rfl
      | false =>
        rw [if_neg (show ¬ false = true from fun z => nomatch z), if_neg (show ¬ (0 - 1 : Int) = (b : Int) by omega), if_neg (show ¬ (a + 1 = n ∧ false = true ∧ b = 0) from fun z => nomatch z.2.1)]; rfl
    · rw [if_neg h, if_neg (show ¬ (a + 1 = n ∧ ret = true ∧ b = 0) from fun z => h z.1)]
      by_cases h2 : a + 1 = b
      · rw [if_pos (show (a : Int) + 1 = (b : Int) by omega), if_pos h2]; rfl
      · rw [if_neg (show ¬ (a : Int) + 1 = (b : Int) by omega), if_neg h2]; rfl
  rw [e]
end
end Rd

set_option Elab.async false
set_option linter.all false
set_option maxRecDepth 100000
set_option maxHeartbeats 4000000
/-! rounds by names -/
namespace Rd
open Ld
section
variable {L : Int} {n : Nat} {fs : Nat → Int} {ret : Bool} {c : Nat → Int} {late : Nat}
theorem arr_inc {row : Nat → Int} {a b : Nat} (ha : a < n) : arr L n fs ret (fun e => if e = a then row e + 1 else row e) b = arr L n fs ret row b + wg L n fs ret b a := by
  unfold arr
  have e : ∀ e, wg L n fs ret b e * (if e = a then row e + 1 else row e) = wg L n fs ret b e * row e + (if e = a then wg L n fs ret b e else 0) := fun e => by
    split
    · rw [Int.mul_add, Int.mul_one]
    · rw [Int.add_zero]
  rw [show (fun e => wg L n fs ret b e * (if e = a then row e + 1 else row e)) = _ from funext e, sm_add, sm_one, if_pos ha]
theorem len_filter (q : Nat → Bool) : ∀ m, (((List.range m).filter q).length : Int) = sm (fun i => if q i = true then 1 else 0) m
  | 0 => rfl
  | m + 1 => by
    rw [List.range_succ, List.filter_append, List.length_append, Int.natCast_add, len_filter q m, sm]
    congr 1
    by_cases h : q m = true
    · rw [if_pos h, List.filter_cons_of_pos h]; rfl
    · rw [if_neg h, List.filter_cons_of_neg h]; rfl
theorem take_pop {α : Type} (l : List α) {k : Nat} (hk : k + 1 ≤ l.length) : (l.take (k + 1)).dropLast = l.take k := by
  rw [List.dropLast_eq_take, List.take_take, List.length_take]
  congr 1
  omega
theorem take_last {α : Type} (l : List α) {k : Nat} (hk : k + 1 ≤ l.length) : (l.take (k + 1))[(l.take (k + 1)).length - 1]? = l[k]? := by
  rw [List.length_take, show min (k + 1) l.length - 1 = k by omega, List.getElem?_take, if_pos (by omega)]
/-- what holds of the players within a round -/
def RI (L : Int) (n : Nat) (fs : Nat → Int) (ret : Bool) (c : Nat → Int) (late m t : Nat) (R Kn row : Nat → Int) : Prop := ∀ b, b < n → ∀ T : Nat, t ≤ T → cnt R Kn m (b : Int) T = c b + (if t + late + 1 ≤ T then arr L n fs ret row b else arr L n fs ret (rws L n fs ret c late (min (t - 1) (T - 1 - late))) b) - L * row b
theorem RI.free {m t : Nat} {R Kn row : Nat → Int} (h : RI L n fs ret c late m t R Kn row) (t1 : 1 ≤ t) {b : Nat} (hb : b < n) : cnt R Kn m (b : Int) t = c b + arr L n fs ret (rws L n fs ret c late (t - 1 - late)) b - L * row b := by
  rw [h b hb t (Nat.le_refl t), if_neg (by omega), show min (t - 1) (t - 1 - late) = t - 1 - late by omega]
theorem RI.next {m t : Nat} {R Kn row : Nat → Int} (h : RI L n fs ret c late m t R Kn row) (hr : ∀ b, b < n → row b = rws L n fs ret c late t b) (t1 : 1 ≤ t) : RI L n fs ret c late m (t + 1) R Kn (rws L n fs ret c late t) := fun b hb T hT => by
  rw [h b hb T (by omega), hr b hb]
  by_cases h1 : t + late + 1 ≤ T
  · rw [if_pos h1, arr_congr hr]
    by_cases h2 : t + 1 + late + 1 ≤ T
    · rw [if_pos h2]
    · rw [if_neg h2, show min (t + 1 - 1) (T - 1 - late) = t by omega]
  · rw [if_neg h1, if_neg (by omega), show min (t + 1 - 1) (T - 1 - late) = min (t - 1) (T - 1 - late) by omega]
/-- one meeting held: the players that it moved -/
theorem RI.meet {m t a : Nat} {R Kn R' Kn' row : Nat → Int} (h : RI L n fs ret c late m t R Kn row) (ha : a < n) (hm : ∀ b, b < n → ∀ T : Nat, t ≤ T → cnt R' Kn' m (b : Int) T = cnt R Kn m (b : Int) T - (if b = a then L else 0) + (if t + late + 1 ≤ T then wg L n fs ret b a else 0)) : RI L n fs ret c late m t R' Kn' (fun e => if e = a then row e + 1 else row e) := fun b hb T hT => by
  rw [hm b hb T hT, h b hb T hT, arr_inc ha]
  have e : L * (if b = a then row b + 1 else row b) = L * row b + (if b = a then L else 0) := by
    split
    · rw [Int.mul_add, Int.mul_one]
    · rw [Int.add_zero]
  rw [e]
  generalize arr L n fs ret row b = x
  generalize arr L n fs ret (rws L n fs ret c late (min (t - 1) (T - 1 - late))) b = y
  generalize wg L n fs ret b a = z
  generalize (if b = a then L else 0) = u
  split <;> omega
theorem fl_div {x L r : Int} (l0 : 0 < L) (h0 : 0 ≤ x - L * r) (h1 : x - L * r < L) : r = x / L := by
  rw [Int.eq_iff_le_and_ge]
  constructor
  · exact (Int.le_ediv_iff_mul_le l0).mpr (by rw [Int.mul_comm]; omega)
  · exact Int.le_of_lt_add_one ((Int.ediv_lt_iff_lt_mul l0).mpr (by rw [Int.add_mul, Int.one_mul, Int.mul_comm r L]; omega))
/-- all players ahead of the first round -/
theorem cnt_start {m : Nat} {R Kn : Nat → Int} (hk : ∀ i, i < m → Kn i = 0) (b : Int) (T : Nat) : cnt R Kn m b T = sm (fun i => if R i = b then 1 else 0) m := sm_congr fun i hi => by
  rw [hk i hi]
  by_cases h : R i = b
  · rw [if_pos h, if_pos ⟨h, by omega⟩]
  · rw [if_neg h, if_neg fun z => h z.1]
theorem arr_zero {b : Nat} : arr L n fs ret (fun _ => 0) b = 0 := by
  unfold arr
  exact Eq.trans (sm_congr (g := fun _ => 0) fun e he => Int.mul_zero _) (sm_zero n)
theorem RI.start {m : Nat} {R Kn : Nat → Int} (hk : ∀ i, i < m → Kn i = 0) (hc : ∀ b, b < n → sm (fun i => if R i = (b : Int) then 1 else 0) m = c b) : RI L n fs ret c late m 1 R Kn (rws L n fs ret c late 0) := fun b hb T hT => by
  rw [cnt_start hk, hc b hb, show min (1 - 1) (T - 1 - late) = 0 by omega, rws_zero, arr_zero]
  show c b = c b + (if _ then (0 : Int) else 0) - L * 0
  rw [Int.mul_zero]
  split <;> omega
end
end Rd

section
open PySem PySem.Spec PyProof.Rows L2 Rl Eg SX
/-! my own short words for a walk -/
-- two addresses differ
local macro_rules | `(tactic| o_reads) => `(tactic| (first
  | assumption | (refine Ne.symm ?_; assumption) | exact ne_of_none (by o_shape) (by assumption) | exact Ne.symm (ne_of_none (by o_shape) (by assumption)) | exact ne_of (by o_shape) (by o_shape) (by intro z; cases z; done)))
-- what stands at an address
local macro_rules | `(tactic| o_shape) => `(tactic| (first
  | with_reducible assumption
  | with_reducible exact upd_same
  | ((with_reducible refine Eq.trans (upd_ne ?h1) ?h2); (case h1 => o_reads); (case h2 => o_shape))
  | ((with_reducible refine same_at (by assumption) ?_); o_shape)
  | ((with_reducible refine off_at (by assumption) ?h1 ?h2); (case h1 => o_reads); (case h2 => o_shape))
  | ((with_reducible refine offs_at (by assumption) ?h1 ?h2); (case h1 => w_left); (case h2 => o_shape))))
-- not in a list of places
local macro_rules | `(tactic| w_left) => `(tactic| (repeat (first | with_reducible exact nn_nil | ((with_reducible refine nn_cons ?h1 ?_); (case h1 => o_reads)))))
-- a field among fields
local macro_rules | `(tactic| w_fin) => `(tactic| (first | with_reducible exact fld_hd | with_reducible exact pf_nil | with_reducible exact pf_hd | ((with_reducible refine' fld_tl ?h1 ?h2); (case h1 => decide +kernel); (case h2 => w_fin)) | ((with_reducible refine' pf_tl ?h1 ?h2); (case h1 => decide +kernel); (case h2 => w_fin))))
-- a list, a tuple that stands
local macro_rules | `(tactic| o_fieldsN) => `(tactic| (first | with_reducible assumption | exact SqL.of (by o_shape) | exact SqT.of (by o_shape) | ((with_reducible refine Same.seq (‹Same _ _› : Same _ _) ?_); o_fieldsN) | ((with_reducible refine Same.tup (‹Same _ _› : Same _ _) ?_); o_fieldsN)))
-- sizes and arithmetic
local macro_rules | `(tactic| pre_facts) => `(tactic| (first | omega | ((with_reducible show (0 : Int) < _); decide) | decide | ((with_reducible show (0 : Int) < _); decide +kernel) | (rw [sizeLine_eq]; omega) | ((simp only [S_cat, S_len, List.length_append, List.length_cons, List.length_nil, List.length_map, sizeLine_eq]); omega)))
local macro_rules | `(tactic| pre_facts) => `(tactic| (first | (rw [Ld.rng_len]; omega) | ((simp only [Ld.rng_len, S_cat, S_len, List.length_append, List.length_cons, List.length_nil, List.length_map, sizeLine_eq]); omega)))
-- one step
local macro_rules | `(tactic| pv_eval) => `(tactic| (first
  | ((with_reducible refine' i_var ?h0 ?_); (case h0 => rfl))
  | with_reducible refine i_c ?_
  | with_reducible refine i_cons ?_
  | with_reducible refine i_nil ?_
  | with_reducible refine i_op ?_
  | with_reducible refine i_cb ?_
  | with_reducible refine j_asg ?_
  | ((with_reducible refine' i_name ?h0 ?_); (case h0 => rfl))
  | with_reducible refine i_seqN (fun _ _ => ?_)
  | with_reducible refine i_test ?_
  | with_reducible refine g_b ?_
  | with_reducible refine i_un ?_
  | with_reducible refine i_call ?_
  | with_reducible refine i_meth ?_
  | with_reducible refine i_callS ?_
  | with_reducible refine i_methS ?_
  | with_reducible refine i_fld ?_
  | with_reducible refine i_mk ?_
  | with_reducible refine i_if ?_
  | with_reducible refine i_sl ?_
  | with_reducible refine i_nopart ?_
  | with_reducible refine i_part ?_
  | with_reducible refine g_part ?_
  | with_reducible refine i_tB ?_
  | with_reducible refine i_tru ?_
  | with_reducible refine g_truB ?_
  | with_reducible refine i_and ?_
  | with_reducible refine i_or ?_
  | with_reducible refine i_not ?_
  | with_reducible refine i_andV ?_
  | with_reducible refine i_orV ?_
  | with_reducible refine i_notV ?_
  | with_reducible refine g_andV ?_
  | with_reducible refine g_orV ?_
  | with_reducible refine g_notV ?_
  | with_reducible refine j_next ?_
  | with_reducible refine j_drop ?_
  | with_reducible refine j_ret ?_
  | with_reducible refine j_retN ?_
  | with_reducible refine i_ifS ?_
  | ((with_reducible refine' j_aug ?h0 ?_); (case h0 => rfl))
  | with_reducible refine g_ipI ?_
  | with_reducible refine j_augS ?_
  | with_reducible refine i_sub ?_
  | with_reducible refine i_for ?_
  | with_reducible refine i_lc ?_
  | with_reducible refine i_iL ?_
  | with_reducible refine i_iT ?_
  | with_reducible refine i_rng0 ?_
  | ((with_reducible refine' g_rng0 ?h0 ?h1 ?_); (case h0 => o_shape); (case h1 => (refine ⟨?_, ?_, ?_, ?_⟩ <;> (pre_facts; done))))
  | with_reducible refine i_revR ?_
  | ((with_reducible refine' g_revR ?h0 ?_); (case h0 => (pre_facts; done)))
  | with_reducible refine g_uRng (fun _ _ _ _ _ => ?_)
  | with_reducible refine i_r1 ?_
  | with_reducible refine i_r2 ?_
  | with_reducible refine i_en ?_
  | with_reducible refine i_eS ?_
  | with_reducible refine i_keys ?_
  | ((with_reducible refine' g_keys ?h0 ?_); (case h0 => o_shape))
  | with_reducible refine i_iS ?_
  | with_reducible refine g_eS ?_
  | with_reducible refine g_iS ?_
  | with_reducible refine i_bm ?_
  | with_reducible refine i_bm0 ?_
  | with_reducible refine g_bmS ?_
  | with_reducible refine i_dget2 ?_
  | with_reducible refine i_dget ?_
  | with_reducible refine i_dput ?_
  | with_reducible refine i_sfld ?_
  | with_reducible refine i_gcons ?_
  | with_reducible refine i_gnil ?_
  | with_reducible refine i_par ?_
  | with_reducible refine i_chain ?_
  | with_reducible refine i_tupN ?_
  | with_reducible refine i_lstN ?_
  | with_reducible refine iteT ?_
  | with_reducible refine iteF ?_
  | with_reducible refine i_ve ?_
  | with_reducible refine i_ost ?_
  | with_reducible refine i_raise ?_
  | with_reducible refine j_makeS ?_
  | with_reducible refine i_xf ?_
  | with_reducible refine i_xfA ?_
  | ((with_reducible refine' i_fwdP ?h0 ?_); (case h0 => rfl))
  | with_reducible refine g_isB ?_
  | with_reducible refine g_notB ?_
  | with_reducible refine i_lstRg2 ?_
  | ((with_reducible refine' i_lamc ?h0 ?_); (case h0 => rfl))
  | ((with_reducible refine' i_fwd ?h0 ?_); (case h0 => rfl))
  | ((with_reducible refine' i_callE ?h0 ?_); (case h0 => rfl))
  | with_reducible refine iteNT ?_
  | with_reducible refine iteNF ?_
  | with_reducible refine g_I0 ?_
  | ((with_reducible refine' g_pow ?h0 ?_); (case h0 => exact ⟨by decide, by decide, by decide⟩))
  | ((with_reducible refine' g_I ?h0 ?_); (case h0 => (pre_facts; done)))
  | with_reducible refine g_neg ?_
  | with_reducible refine g_addI ?_
  | ((with_reducible refine' g_addS ?h0 ?_); (case h0 => (pre_facts; done)))
  | ((with_reducible refine' g_mul ?h0 ?_); (case h0 => first | exact .inl (.inl ⟨by decide, by decide⟩) | exact .inl (.inr ⟨by decide, by decide⟩) | exact .inr (by show _ + _ < _; decide +kernel) | (refine .inl (.inl ⟨?_, ?_⟩) <;> (pre_facts; done)) | (refine .inl (.inr ⟨?_, ?_⟩) <;> (pre_facts; done))))
  | ((with_reducible refine' g_div ?h0 ?_); (case h0 => (refine .inl ⟨?_, ?_⟩ <;> (pre_facts; done))))
  | with_reducible refine g_eqI ?_
  | with_reducible refine g_neI ?_
  | with_reducible refine g_eqS ?_
  | with_reducible refine g_neS ?_
  | with_reducible refine g_uInt ?_
  | with_reducible refine g_ord ?_
  | ((with_reducible refine' g_str ?h0 ?_); (case h0 => (pre_facts; done)))
  | with_reducible refine g_abs ?_
  | with_reducible refine g_max2 ?_
  | with_reducible refine g_min2 ?_
  | with_reducible refine g_count ?_
  | with_reducible refine g_isNN ?_
  | with_reducible refine g_noNN ?_
  | ((with_reducible refine' g_isNx ?h0 ?_); (case h0 => (intro z; cases z; done)))
  | ((with_reducible refine' g_noNx ?h0 ?_); (case h0 => (intro z; cases z; done)))
  | ((with_reducible refine' g_isi ?h0 ?h1 ?_); (case h0 => first | with_reducible exact .base (.int _) | with_reducible exact .base (.str _) | with_reducible exact .base (.bl _) | with_reducible exact .base .non | exact .base (.lst (by o_shape)) | exact .base (.tup (by o_shape))); (case h1 => first | with_reducible exact kb_bb | with_reducible exact kb_ii | with_reducible exact kb_ss | with_reducible exact kb_ll | with_reducible exact kb_tt | ((with_reducible refine kb_non _ ?_); decide) | ((with_reducible refine kb_bool _ ?_); decide) | ((with_reducible refine kb_int _ ?_); decide) | ((with_reducible refine kb_str _ ?_); decide) | ((with_reducible refine kb_list _ ?_); decide) | ((with_reducible refine kb_tuple _ ?_); decide)))
  | ((with_reducible refine' g_newT ?h0 (fun _ _ _ _ _ => ?_)); (case h0 => (pre_facts; done)))
  | ((with_reducible refine' g_newL ?h0 (fun _ _ _ _ _ => ?_)); (case h0 => (pre_facts; done)))
  | with_reducible refine i_dnew (fun _ _ _ _ _ => ?_)
  | ((with_reducible refine' g_fld ?h0 ?h1 ?h2 ?h3 ?_); (case h0 => o_shape); (case h1 => assumption); (case h2 => assumption); (case h3 => w_fin))
  | ((with_reducible refine' g_sfld ?h0 ?h1 ?h2 ?h3 ?h4 ?_); (case h0 => o_shape); (case h1 => assumption); (case h2 => assumption); (case h3 => (pre_facts; done)); (case h4 => w_fin))
  | ((with_reducible refine' g_meth ?h0 ?h1 ?_); (case h0 => o_shape); (case h1 => rfl))
  | ((with_reducible refine' g_methS ?h0 ?h1 ?_); (case h0 => o_shape); (case h1 => rfl))
  | ((with_reducible refine' g_dget2 ?h0 ?_); (case h0 => exact Rd.of (by o_shape)))
  | ((with_reducible refine' g_dg ?h0 ?_); (case h0 => exact Rd.of (by o_shape)))
  | ((with_reducible refine' g_dput ?h0 ?h1 ?_); (case h0 => o_shape); (case h1 => (pre_facts; done)))
  | ((with_reducible refine' g_ixL ?h0 ?h1 ?_); (case h0 => o_fieldsN); (case h1 => rfl))
  | ((with_reducible refine' g_ixLg ?h0 ?h1 ?_); (case h0 => o_fieldsN); (case h1 => rfl))
  | ((with_reducible refine' g_ixT ?h0 ?h1 ?_); (case h0 => o_fieldsN); (case h1 => rfl))
  | ((with_reducible refine' g_setL ?h0 ?h1 ?h2 ?_); (case h0 => o_shape); (case h1 => rfl); (case h2 => rfl))
  | ((with_reducible refine' g_lenL ?h0 ?_); (case h0 => o_fieldsN))
  | ((with_reducible refine' g_lenT ?h0 ?_); (case h0 => o_fieldsN))
  | ((with_reducible refine' g_lenS ?h0 ?_); (case h0 => (pre_facts; done)))
  | ((with_reducible refine' g_iL ?h0 ?_); (case h0 => o_fieldsN))
  | ((with_reducible refine' g_en ?h0 ?_); (case h0 => o_fieldsN))
  | ((with_reducible refine' g_r1 ?h0 ?_); (case h0 => (refine ⟨?_, ?_⟩ <;> (pre_facts; done))))
  | ((with_reducible refine' g_r2 ?h0 ?_); (case h0 => (refine ⟨?_, ?_, ?_, ?_⟩ <;> (pre_facts; done))))
  | ((with_reducible refine' g_bmL ?h0 ?_); (case h0 => o_fieldsN))
  | ((with_reducible refine' g_app ?h0 ?h1 ?_); (case h0 => o_shape); (case h1 => (pre_facts; done)))
  | ((with_reducible refine' g_sum ?h0 ?_); (case h0 => o_fieldsN))
  | ((with_reducible refine' g_list ?h0 (fun _ _ _ _ _ => ?_)); (case h0 => o_fieldsN))
  | ((with_reducible refine' g_slS ?h0 ?_); (case h0 => (pre_facts; done)))
  | ((with_reducible refine' g_slL' ?h0 (fun _ _ _ _ _ => ?_)); (case h0 => o_fieldsN))
  | ((with_reducible refine' i_gtup ?h0 ?h1 ?_); (case h0 => o_fieldsN); (case h1 => rfl))
  | ((with_reducible refine' i_unl ?h0 ?h1 ?_); (case h0 => o_fieldsN); (case h1 => rfl))
  | ((with_reducible refine' t_nx ?h0 ?_); (case h0 => assumption))))
local macro_rules | `(tactic| o_readsAll) => `(tactic| (repeat pv_eval))

namespace L29
section
variable {P : Program} {w : World} {K : PySem.W.Frag} {mg : Str → Option Value} {base : Heap} {Z : Ad}
def Stk (H : Hp) (a : Addr) : Prop := ∃ s0 s1 s2, H a = some (.lst [.int s0, .int s1, .int s2])
def sp_draw : Sp := fun vs H Q _ => ∃ a m, vs = [.ref a, .int m] ∧ 0 < m ∧ m < 2 ^ 200 ∧ Stk H a ∧ ∀ r H', 0 ≤ r → r < m → Stk H' a → Off a H H' → Q (.int r) H'
theorem d_law_draw (T : Txt K w mg Z) : Dfn P w K mg base 1 "_law_draw" ["stock", "many"] (sp_draw) := by
  obtain ⟨f, fd, F, hm, hb⟩ := T.f_law_draw
  refine ⟨f, fd, F.ok sc_law_draw (fun vs H Q E h => by first | (obtain ⟨rfl, _⟩ := h; rfl) | (obtain ⟨_, rfl, _⟩ := h; rfl) | (obtain ⟨_, _, rfl, _⟩ := h; rfl) | (obtain ⟨_, _, _, rfl, _⟩ := h; rfl) | (obtain ⟨_, _, _, _, rfl, _⟩ := h; rfl) | (obtain ⟨_, _, _, _, _, rfl, _⟩ := h; rfl) | (obtain ⟨_, _, _, _, _, _, rfl, _⟩ := h; rfl) | (obtain ⟨_, _, _, _, _, _, _, rfl, _⟩ := h; rfl) | (obtain ⟨_, _, _, _, _, _, _, _, rfl, _⟩ := h; rfl) | (obtain ⟨_, _, _, _, _, _, _, _, _, rfl, _⟩ := h; rfl) | (obtain ⟨_, _, _, _, _, _, _, _, _, _, rfl, _⟩ := h; rfl) | (obtain ⟨_, _, _, _, _, _, _, _, _, _, _, rfl, _⟩ := h; rfl) | (obtain ⟨_, _, _, _, _, _, _, _, _, _, _, _, rfl, _⟩ := h; rfl) | (obtain ⟨_, _, _, _, _, _, _, _, _, _, _, _, _, rfl, _⟩ := h; rfl) | (obtain ⟨_, _, _, _, _, _, _, _, _, _, _, _, _, _, rfl, _⟩ := h; rfl) | (obtain ⟨_, _, _, _, _, _, _, _, _, _, _, _, _, _, _, rfl, _⟩ := h; rfl) | (obtain ⟨_, _, _, _, _, _, _, _, _, _, _, _, _, _, _, _, rfl, _⟩ := h; rfl)) (fun cdv A outer s H vs Q E hr h => ?_), hm, F.kp, hb⟩
  obtain ⟨a, m, rfl, h0, h1, ⟨s0, s1, s2, hH⟩, k⟩ := h
  refine ⟨_, (pss_cons (ps_if (pt_cmpR op_gt (pe_ix ix_seq (pv 0) pe_int (fun _ _ => rfl)) pe_int (nomark _)) (pss_cons (ps_set (i := 2) sc_law_draw.nd rfl (.inl rfl) (pe_op op_mod (pe_callTy call_uInt (by rfl) T.b_int bt_int (pa_cons (pe_ix ix_seq (pv 0) pe_int (fun _ _ => rfl)) pa_nil)) (pv 1)))
      (pss_cons (ps_asg (pe_op op_uDiv (pe_ix ix_seq (pv 0) pe_int (fun _ _ => rfl)) (pv 1)) (pg_sub (pv 0) pe_int set_list))
      (pss_one (ps_ret (pv 2))))) pss_nil)
      (pss_cons (ps_augS (pv 0) pe_int get_list pe_int ip_add set_list)
      (pss_cons (ps_asg (pe_op op_mod (pe_callTy call_uInt (by rfl) T.b_int bt_int (pa_cons (pe_op op_uAdd (pe_op op_uMul (pe_ix ix_seq (pv 0) pe_int (fun _ _ => rfl)) pe_int) (pe_op op_uMul (pe_ix ix_seq (pv 0) pe_int (fun _ _ => rfl)) pe_int)) pa_nil)) pe_int) (pg_sub (pv 0) pe_int set_list))
      (pss_one (ps_ret (pe_op op_mod (pe_op op_uDiv (pe_op op_mod (pe_callTy call_uInt (by rfl) T.b_int bt_int (pa_cons (pe_op op_uAdd (pe_op op_uMul (pe_ix ix_seq (pv 0) pe_int (fun _ _ => rfl)) pe_int) (pe_op op_uMul (pe_ix ix_seq (pv 0) pe_int (fun _ _ => rfl)) pe_int)) pa_nil)) pe_int) pe_int) (pv 1))))))), ?_⟩
  try dsimp only [cxOf, Cx.nox, Cx.wish]
  show (_ : TS) _ [some _, some _, none] _
  o_readsAll
  have hmb : m.natAbs < 2 ^ 200 := by omega
  refine br (fun hs => ?_) (fun hs => ?_)
  · o_readsAll
    refine g_divW h0 hmb (by decide) ?_
    o_readsAll
    exact k _ _ (Int.emod_nonneg _ (by omega)) (Int.emod_lt_of_pos _ h0) ⟨_, _, _, upd_same⟩ (off_refl _ _).upd
  · o_readsAll
    exact k _ _ (Int.emod_nonneg _ (by omega)) (Int.emod_lt_of_pos _ h0) ⟨_, _, _, upd_same⟩ (off_refl _ _).upd.upd
def sp_stock (K : PySem.W.Frag) : Sp := fun vs H Q _ => ∃ (a : Addr) (ns : List Int) (at_ : Nat), vs = [.ref a, .int at_] ∧ SqL K H a (ns.map V.int) ∧ ns.length ≤ 63 ∧ at_ < 1000000 ∧ ∀ p H', H p = none → Same H H' → Stk H' p → Q (.ref p) H'
theorem cut5 (ns : List Int) (lo hi : Option Int) : ∃ ms : List Int, cutV (ns.map V.int) lo hi = ms.map V.int ∧ ms.length ≤ ns.length := by
  unfold cutV
  rw [← List.map_drop, ← List.map_take]
  refine ⟨_, rfl, ?_⟩
  rw [List.length_take, List.length_drop]
  omega
theorem d_law_stock (T : Txt K w mg Z) : Dfn P w K mg base 1 "_law_stock" ["script", "at"] (sp_stock K) := by
  obtain ⟨f, fd, F, hm, hb⟩ := T.f_law_stock
  refine ⟨f, fd, F.ok sc_law_stock (fun vs H Q E h => by first | (obtain ⟨rfl, _⟩ := h; rfl) | (obtain ⟨_, rfl, _⟩ := h; rfl) | (obtain ⟨_, _, rfl, _⟩ := h; rfl) | (obtain ⟨_, _, _, rfl, _⟩ := h; rfl) | (obtain ⟨_, _, _, _, rfl, _⟩ := h; rfl) | (obtain ⟨_, _, _, _, _, rfl, _⟩ := h; rfl) | (obtain ⟨_, _, _, _, _, _, rfl, _⟩ := h; rfl) | (obtain ⟨_, _, _, _, _, _, _, rfl, _⟩ := h; rfl) | (obtain ⟨_, _, _, _, _, _, _, _, rfl, _⟩ := h; rfl) | (obtain ⟨_, _, _, _, _, _, _, _, _, rfl, _⟩ := h; rfl) | (obtain ⟨_, _, _, _, _, _, _, _, _, _, rfl, _⟩ := h; rfl) | (obtain ⟨_, _, _, _, _, _, _, _, _, _, _, rfl, _⟩ := h; rfl) | (obtain ⟨_, _, _, _, _, _, _, _, _, _, _, _, rfl, _⟩ := h; rfl) | (obtain ⟨_, _, _, _, _, _, _, _, _, _, _, _, _, rfl, _⟩ := h; rfl) | (obtain ⟨_, _, _, _, _, _, _, _, _, _, _, _, _, _, rfl, _⟩ := h; rfl) | (obtain ⟨_, _, _, _, _, _, _, _, _, _, _, _, _, _, _, rfl, _⟩ := h; rfl) | (obtain ⟨_, _, _, _, _, _, _, _, _, _, _, _, _, _, _, _, rfl, _⟩ := h; rfl)) (fun cdv A outer s H vs Q E hr h => ?_), hm, F.kp, hb⟩
  obtain ⟨a, ns, at_, rfl, hS, hn, ha, k⟩ := h
  refine ⟨_, (pss_cons (ps_set (i := 2) sc_law_stock.nd rfl (.inl rfl) (pe_ifExp (pt_cmpR op_lt (pv 1) (pe_callB call_uLen (by rfl) T.b_len bt_len (pa_cons (pv 0) pa_nil)) (nomark _)) (pe_callTy call_uInt (by rfl) T.b_int bt_int (pa_cons (pe_ix ix_seq (pv 0) (pv 1) (fun _ _ => rfl)) pa_nil)) (pe_op op_uAdd (pe_op op_uMul pe_int (pe_callB (cr_sum rfl) (by rfl) T.b_sum bt_sum (pa_cons (pe_lc (own := [("one", 5)]) (by rfl) sc_law_stock.nd (pi_list (pe_slice sl_u (pv 0) po_none (po_some pe_int))) (blkOk_by (N := n_law_stock) (sc := defScope st_law_stock) (by decide +kernel)) (fun _ _ _ _ _ => (pg_name (i := 5) sc_law_stock.nd rfl (.inl rfl))) (fun _ _ _ _ _ => pts_nil) (fun _ _ _ _ _ => (pe_op op_mod (pe_callTy call_uInt (by rfl) T.b_int bt_int (pa_cons (pv 5) pa_nil)) pe_int))) pa_nil))) pe_int)))
      (pss_cons (ps_set (i := 3) sc_law_stock.nd rfl (.inl rfl) (pe_op op_mod (pe_callB call_uAbs (by rfl) T.b_abs bt_abs (pa_cons (pv 2) pa_nil)) (pe_op op_uMul (pe_op op_pow pe_int pe_int) (pe_op op_pow pe_int pe_int))))
      (pss_cons (ps_set (i := 4) sc_law_stock.nd rfl (.inl rfl) (pe_op op_mod (pe_callTy call_uInt (by rfl) T.b_int bt_int (pa_cons (pe_op op_uAdd (pe_op op_uAdd (pe_op op_uAdd (pe_op op_uMul pe_int (pv 3)) (pe_ifExp (pt_cmpR op_lt (pv 2) pe_int (nomark _)) pe_int pe_int)) (pe_op op_uMul (pv 1) pe_int)) pe_int) pa_nil)) pe_int))
      (pss_one (ps_ret (pe_lst (pa_cons (pe_ifExp (pt_cmpR op_ge (pv 3) (pe_op op_pow pe_int pe_int) (nomark _)) (pv 3) pe_int) (pa_cons (pe_op op_mod (pe_callTy call_uInt (by rfl) T.b_int bt_int (pa_cons (pe_op op_uMul (pe_op op_uAdd (pv 4) pe_int) (pe_op op_uAdd (pv 4) pe_int)) pa_nil)) pe_int) (pa_cons (pv 1) pa_nil))))))))), ?_⟩
  try dsimp only [cxOf, Cx.nox, Cx.wish]
  show (_ : TS) _ [some _, some _, none, none, none, none] _
  o_readsAll
  refine jnE (fun x H1 => ∃ c : Int, x = .int c ∧ Same H H1) ?_ (fun Q' hQ => br (fun hc => ?_) (fun hc => ?_))
  · rintro x H1 ⟨c, rfl, e1⟩
    o_readsAll
    refine jnE (fun x H1 => ∃ c : Int, x = .int c ∧ Same H H1) ?_ (fun Q' hQ => br (fun hc => ?_) (fun hc => ?_))
    · rintro x H2 ⟨c2, rfl, e2⟩
      o_readsAll
      refine jnE (fun x H1 => ∃ c : Int, x = .int c ∧ Same H H1) ?_ (fun Q' hQ => br (fun hc => ?_) (fun hc => ?_))
      · rintro x H3 ⟨c3, rfl, e3⟩
        o_readsAll
        exact k _ _ (e3.free (by assumption)) (e3.trans (by assumption)) ⟨_, _, _, by assumption⟩
      · o_readsAll
        exact hQ _ _ ⟨_, rfl, e2⟩
      · o_readsAll
        exact hQ _ _ ⟨_, rfl, e2⟩
    · o_readsAll
      exact hQ _ _ ⟨_, rfl, e1⟩
    · o_readsAll
      exact hQ _ _ ⟨_, rfl, e1⟩
  · rw [List.length_map] at hc
    o_readsAll
    refine g_ixL hS (v := .int (ns[at_]'(by omega))) (atI_nat (j := at_) (by rw [List.getElem?_map, List.getElem?_eq_getElem (by omega)]; rfl)) ?_
    o_readsAll
    exact hQ _ _ ⟨_, rfl, Same.refl _⟩
  · o_readsAll
    obtain ⟨ms, em, lm⟩ := cut5 ns none (some 5)
    rename_i p H1 hp e1 h1
    rw [em] at h1
    refine l_lstP (fun i => .int ((ms.getD i 0) % 1000003)) (.of h1) (fun x => rfl) (fun D i x H' hx hD e hl => ?_) fun q H2 hq e2 h2 => ?_
    · rw [List.getElem?_map] at hx
      obtain ⟨m, hm, rfl⟩ := Option.map_eq_some_iff.mp hx
      have hi := (List.getElem?_eq_some_iff.mp hm).1
      o_readsAll
      exact g_itemP e hl hD (by rw [sizeLine_eq]; omega) (by rw [List.getD_eq_getElem?_getD, hm]; rfl)
    · rw [show (List.range (ms.map V.int).length).map (fun i => V.int ((ms.getD i 0) % 1000003)) = ((List.range ms.length).map fun i => (ms.getD i 0) % 1000003).map V.int by rw [List.map_map, List.length_map]; rfl] at h2
      o_readsAll
      exact hQ _ _ ⟨_, rfl, e1.trans e2⟩
end
end L29

namespace L29
open SX
section
variable {P : Program} {w : World} {K : PySem.W.Frag} {mg : Str → Option Value} {base : Heap} {Z : Ad}
/-- the same data, so deep at most -/
def Alk (H : Hp) : Nat → V → V → Prop
  | 0, _, _ => False
  | n + 1, x, y => (x = .non ∧ y = .non) ∨ (∃ i : Int, x = .int i ∧ y = .int i) ∨ (∃ s : Str, x = .str s ∧ y = .str s) ∨ (∃ b : Bool, x = .bl b ∧ y = .bl b) ∨
    (∃ (a b : Addr) (xs ys : List V), x = .ref a ∧ y = .ref b ∧ H a = some (.tup xs) ∧ H b = some (.tup ys) ∧ xs.length = ys.length ∧ ys.length ≤ 1000000 ∧ ∀ (i : Nat) (u v : V), xs[i]? = some u → ys[i]? = some v → Alk H n u v) ∨
    (∃ (a b : Addr) (xs ys : List V), x = .ref a ∧ y = .ref b ∧ H a = some (.lst xs) ∧ H b = some (.lst ys) ∧ xs.length = ys.length ∧ ys.length ≤ 1000000 ∧ ∀ (i : Nat) (u v : V), xs[i]? = some u → ys[i]? = some v → Alk H n u v)
theorem Alk.same {H H' : Hp} (e : Same H H') : ∀ {n : Nat} {x y : V}, Alk H n x y → Alk H' n x y
  | 0, x, y, h => h.elim
  | n + 1, x, y, h => by
    rcases h with h | h | h | h | ⟨a, b, xs, ys, h1, h2, h3, h4, h5, h6, h7⟩ | ⟨a, b, xs, ys, h1, h2, h3, h4, h5, h6, h7⟩
    · exact .inl h
    · exact .inr (.inl h)
    · exact .inr (.inr (.inl h))
    · exact .inr (.inr (.inr (.inl h)))
    · exact .inr (.inr (.inr (.inr (.inl ⟨a, b, xs, ys, h1, h2, e _ _ h3, e _ _ h4, h5, h6, fun i u v p q => Alk.same e (h7 i u v p q)⟩))))
    · exact .inr (.inr (.inr (.inr (.inr ⟨a, b, xs, ys, h1, h2, e _ _ h3, e _ _ h4, h5, h6, fun i u v p q => Alk.same e (h7 i u v p q)⟩))))
def sp_mat (n : Nat) : Sp := fun vs H Q _ => ∃ x y, vs = [x, y] ∧ Alk H n x y ∧ ∀ H', Same H H' → Q (.bl true) H'
theorem d_law_matches (T : Txt K w mg Z) : ∀ n, Dfn P w K mg base (n + 1) "_law_matches" ["answer", "due"] (sp_mat n)
  | 0 => by
    obtain ⟨f, fd, F, hm, hb⟩ := T.f_law_matches
    refine ⟨f, fd, F.ok sc_law_matches (fun vs H Q E h => by first | (obtain ⟨rfl, _⟩ := h; rfl) | (obtain ⟨_, rfl, _⟩ := h; rfl) | (obtain ⟨_, _, rfl, _⟩ := h; rfl) | (obtain ⟨_, _, _, rfl, _⟩ := h; rfl) | (obtain ⟨_, _, _, _, rfl, _⟩ := h; rfl) | (obtain ⟨_, _, _, _, _, rfl, _⟩ := h; rfl) | (obtain ⟨_, _, _, _, _, _, rfl, _⟩ := h; rfl) | (obtain ⟨_, _, _, _, _, _, _, rfl, _⟩ := h; rfl) | (obtain ⟨_, _, _, _, _, _, _, _, rfl, _⟩ := h; rfl) | (obtain ⟨_, _, _, _, _, _, _, _, _, rfl, _⟩ := h; rfl) | (obtain ⟨_, _, _, _, _, _, _, _, _, _, rfl, _⟩ := h; rfl) | (obtain ⟨_, _, _, _, _, _, _, _, _, _, _, rfl, _⟩ := h; rfl) | (obtain ⟨_, _, _, _, _, _, _, _, _, _, _, _, rfl, _⟩ := h; rfl) | (obtain ⟨_, _, _, _, _, _, _, _, _, _, _, _, _, rfl, _⟩ := h; rfl) | (obtain ⟨_, _, _, _, _, _, _, _, _, _, _, _, _, _, rfl, _⟩ := h; rfl) | (obtain ⟨_, _, _, _, _, _, _, _, _, _, _, _, _, _, _, rfl, _⟩ := h; rfl) | (obtain ⟨_, _, _, _, _, _, _, _, _, _, _, _, _, _, _, _, rfl, _⟩ := h; rfl)) (fun cdv A outer s H vs Q E hr h => ?_), hm, F.kp, hb⟩
    obtain ⟨x, y, rfl, h, k⟩ := h
    exact h.elim
  | n + 1 => by
    have D_law_matches := d_law_matches T n
    obtain ⟨f, fd, F, hm, hb⟩ := T.f_law_matches
    refine ⟨f, fd, F.ok sc_law_matches (fun vs H Q E h => by first | (obtain ⟨rfl, _⟩ := h; rfl) | (obtain ⟨_, rfl, _⟩ := h; rfl) | (obtain ⟨_, _, rfl, _⟩ := h; rfl) | (obtain ⟨_, _, _, rfl, _⟩ := h; rfl) | (obtain ⟨_, _, _, _, rfl, _⟩ := h; rfl) | (obtain ⟨_, _, _, _, _, rfl, _⟩ := h; rfl) | (obtain ⟨_, _, _, _, _, _, rfl, _⟩ := h; rfl) | (obtain ⟨_, _, _, _, _, _, _, rfl, _⟩ := h; rfl) | (obtain ⟨_, _, _, _, _, _, _, _, rfl, _⟩ := h; rfl) | (obtain ⟨_, _, _, _, _, _, _, _, _, rfl, _⟩ := h; rfl) | (obtain ⟨_, _, _, _, _, _, _, _, _, _, rfl, _⟩ := h; rfl) | (obtain ⟨_, _, _, _, _, _, _, _, _, _, _, rfl, _⟩ := h; rfl) | (obtain ⟨_, _, _, _, _, _, _, _, _, _, _, _, rfl, _⟩ := h; rfl) | (obtain ⟨_, _, _, _, _, _, _, _, _, _, _, _, _, rfl, _⟩ := h; rfl) | (obtain ⟨_, _, _, _, _, _, _, _, _, _, _, _, _, _, rfl, _⟩ := h; rfl) | (obtain ⟨_, _, _, _, _, _, _, _, _, _, _, _, _, _, _, rfl, _⟩ := h; rfl) | (obtain ⟨_, _, _, _, _, _, _, _, _, _, _, _, _, _, _, _, rfl, _⟩ := h; rfl)) (fun cdv A outer s H vs Q E hr h => ?_), hm, F.kp, hb⟩
    obtain ⟨x, y, rfl, h, k⟩ := h
    refine ⟨_, (pss_cons (ps_if (PW.pt (pw_or (pt_cmpR op_uIsN (pv 1) pe_non (nomark _)) (pw_or1 (pt_cmpR op_uIsN (pv 0) pe_non (nomark _))))) (pss_one (ps_ret (pe_and (pe_cmpR op_uIsN (pv 1) pe_non (nomark _)) (pe_one (pe_cmpR op_uIsN (pv 0) pe_non (nomark _)))))) pss_nil)
      (pss_cons (ps_if (PW.pt (pw_or (pt_u (pe_callB call_isi (by rfl) T.b_isinstance bt_isinstance (pa_cons (pv 1) (pa_cons (pe_bltn (v := .ty "bool") (by rfl) T.b_bool bt_bool rfl) pa_nil)))) (pw_or1 (pt_u (pe_callB call_isi (by rfl) T.b_isinstance bt_isinstance (pa_cons (pv 0) (pa_cons (pe_bltn (v := .ty "bool") (by rfl) T.b_bool bt_bool rfl) pa_nil))))))) (pss_one (ps_ret (pe_and (pe_callB call_isi (by rfl) T.b_isinstance bt_isinstance (pa_cons (pv 1) (pa_cons (pe_bltn (v := .ty "bool") (by rfl) T.b_bool bt_bool rfl) pa_nil))) (pe_and (pe_callB call_isi (by rfl) T.b_isinstance bt_isinstance (pa_cons (pv 0) (pa_cons (pe_bltn (v := .ty "bool") (by rfl) T.b_bool bt_bool rfl) pa_nil))) (pe_one (pe_cmpR (op_uEq hr.units) (pv 0) (pv 1) (nomark _))))))) pss_nil)
      (pss_cons (ps_if (pt_u (pe_callB call_isi (by rfl) T.b_isinstance bt_isinstance (pa_cons (pv 1) (pa_cons (pe_bltn (v := .ty "int") (by rfl) T.b_int bt_int rfl) pa_nil)))) (pss_one (ps_ret (pe_and (pe_callB call_isi (by rfl) T.b_isinstance bt_isinstance (pa_cons (pv 0) (pa_cons (pe_bltn (v := .ty "int") (by rfl) T.b_int bt_int rfl) pa_nil))) (pe_one (pe_cmpR (op_uEq hr.units) (pv 0) (pv 1) (nomark _)))))) pss_nil)
      (pss_cons (ps_if (pt_u (pe_callB call_isi (by rfl) T.b_isinstance bt_isinstance (pa_cons (pv 1) (pa_cons (pe_bltn (v := .ty "str") (by rfl) T.b_str bt_str rfl) pa_nil)))) (pss_one (ps_ret (pe_and (pe_callB call_isi (by rfl) T.b_isinstance bt_isinstance (pa_cons (pv 0) (pa_cons (pe_bltn (v := .ty "str") (by rfl) T.b_str bt_str rfl) pa_nil))) (pe_one (pe_cmpR (op_uEq hr.units) (pv 0) (pv 1) (nomark _)))))) pss_nil)
      (pss_cons (ps_if (PW.pt (pw_and (pt_u (pe_callB call_isi (by rfl) T.b_isinstance bt_isinstance (pa_cons (pv 1) (pa_cons (pe_bltn (v := .ty "tuple") (by rfl) T.b_tuple bt_tuple rfl) pa_nil)))) (pw_and1 (pt_not (pt_u (pe_callB call_isi (by rfl) T.b_isinstance bt_isinstance (pa_cons (pv 0) (pa_cons (pe_bltn (v := .ty "tuple") (by rfl) T.b_tuple bt_tuple rfl) pa_nil)))))))) (pss_one (ps_ret pe_bl)) pss_nil)
      (pss_cons (ps_if (PW.pt (pw_and (pt_u (pe_callB call_isi (by rfl) T.b_isinstance bt_isinstance (pa_cons (pv 1) (pa_cons (pe_bltn (v := .ty "list") (by rfl) T.b_list bt_list rfl) pa_nil)))) (pw_and1 (pt_not (pt_u (pe_callB call_isi (by rfl) T.b_isinstance bt_isinstance (pa_cons (pv 0) (pa_cons (pe_bltn (v := .ty "list") (by rfl) T.b_list bt_list rfl) pa_nil)))))))) (pss_one (ps_ret pe_bl)) pss_nil)
      (pss_cons (ps_if (pt_cmpR (op_uNe hr.units) (pe_callB call_uLen (by rfl) T.b_len bt_len (pa_cons (pv 0) pa_nil)) (pe_callB call_uLen (by rfl) T.b_len bt_len (pa_cons (pv 1) pa_nil)) (nomark _)) (pss_one (ps_ret pe_bl)) pss_nil)
      (pss_cons (ps_for PassesOwn.never rfl (pi_range1 (by rfl) T.b_range (pa_cons (pe_callB call_uLen (by rfl) T.b_len bt_len (pa_cons (pv 1) pa_nil)) pa_nil)) (pg_name (i := 2) sc_law_matches.nd rfl (.inl rfl))
        (pss_one (ps_if (pt_not (pt_u (pe_dfn D_law_matches (hr.mono (by omega)) (by rfl) (pa_cons (pe_ix ix_seq (pv 0) (pv 2) (fun _ _ => rfl)) (pa_cons (pe_ix ix_seq (pv 1) (pv 2) (fun _ _ => rfl)) pa_nil))))) (pss_one (ps_ret pe_bl)) pss_nil)))
      (pss_one (ps_ret pe_bl)))))))))), ?_⟩
    try dsimp only [cxOf, Cx.nox, Cx.wish]
    show (_ : TS) _ [some _, some _, none] _
    rcases h with ⟨rfl, rfl⟩ | ⟨i, rfl, rfl⟩ | ⟨z, rfl, rfl⟩ | ⟨z, rfl, rfl⟩ | ⟨a, b, xs, ys, rfl, rfl, h1, h2, hl, hs, hk⟩ | ⟨a, b, xs, ys, rfl, rfl, h1, h2, hl, hs, hk⟩
    · o_readsAll
      exact k _ (Same.refl _)
    · o_readsAll
      rw [decide_eq_true rfl]
      exact k _ (Same.refl _)
    · o_readsAll
      rw [decide_eq_true rfl]
      exact k _ (Same.refl _)
    · o_readsAll
      refine g_eqB ?_
      rw [decide_eq_true rfl]
      exact k _ (Same.refl _)
    · o_readsAll
      refine brn (fun h => absurd (by rw [hl]) h) (fun _ => ?_)
      o_readsAll
      refine f_rng (fun i σ' H' => ∃ x, σ' = [some (.ref a), some (.ref b), x] ∧ Same H H') ⟨_, rfl, Same.refl _⟩ ?_ ?_
      · rintro i σ' H1 hi ⟨x, rfl, e1⟩
        have hi' : i < ys.length := by omega
        have hx : xs[i]? = some (xs[i]'(by omega)) := List.getElem?_eq_getElem _
        have hy : ys[i]? = some (ys[i]'hi') := List.getElem?_eq_getElem _
        generalize xs[i]'(by omega) = u at hx
        generalize ys[i]'hi' = v at hy
        rw [Int.zero_add]
        o_readsAll
        refine g_ixT (.of (e1 _ _ h1)) (atI_nat hx) ?_
        o_readsAll
        refine g_ixT (.of (e1 _ _ h2)) (atI_nat hy) ?_
        o_readsAll
        refine ⟨_, _, rfl, (hk i u v hx hy).same e1, fun H2 e2 => ?_⟩
        o_readsAll
        exact ⟨_, rfl, e1.trans e2⟩
      · rintro σ' H1 ⟨x, rfl, e1⟩
        o_readsAll
        exact k _ e1
    · o_readsAll
      refine brn (fun h => absurd (by rw [hl]) h) (fun _ => ?_)
      o_readsAll
      refine f_rng (fun i σ' H' => ∃ x, σ' = [some (.ref a), some (.ref b), x] ∧ Same H H') ⟨_, rfl, Same.refl _⟩ ?_ ?_
      · rintro i σ' H1 hi ⟨x, rfl, e1⟩
        have hi' : i < ys.length := by omega
        have hx : xs[i]? = some (xs[i]'(by omega)) := List.getElem?_eq_getElem _
        have hy : ys[i]? = some (ys[i]'hi') := List.getElem?_eq_getElem _
        generalize xs[i]'(by omega) = u at hx
        generalize ys[i]'hi' = v at hy
        rw [Int.zero_add]
        o_readsAll
        refine g_ixL (.of (e1 _ _ h1)) (atI_nat hx) ?_
        o_readsAll
        refine g_ixL (.of (e1 _ _ h2)) (atI_nat hy) ?_
        o_readsAll
        refine ⟨_, _, rfl, (hk i u v hx hy).same e1, fun H2 e2 => ?_⟩
        o_readsAll
        exact ⟨_, rfl, e1.trans e2⟩
      · rintro σ' H1 ⟨x, rfl, e1⟩
        o_readsAll
        exact k _ e1
end
end L29

namespace L29
open SX Ld
section
variable {P : Program} {w : World} {K : PySem.W.Frag} {mg : Str → Option Value} {base : Heap} {Z : Ad}
def sp_grown (K : PySem.W.Frag) : Sp := fun vs H Q _ => ∃ (L x : Int) (fl ch : Addr) (n : Nat) (fs c : Nat → Int), vs = [.int L, .ref fl, .int x, .ref ch] ∧ IL H fl n fs ∧ IL H ch n c ∧ n ≤ 40 ∧ OkF fs ∧ 0 ≤ L ∧ L ≤ 6 ∧ ∀ p H', H p = none → Same H H' → IL H' p (n + 1) (gv L fs x c) → Q (.ref p) H'
theorem d_grown (T : Txt K w mg Z) : Dfn P w K mg base 1 "grown" ["lanes", "falls", "first", "charges"] (sp_grown K) := by
  obtain ⟨f, fd, F, hm, hb⟩ := T.f_grown
  refine ⟨f, fd, F.ok sc_grown (fun vs H Q E h => by first | (obtain ⟨rfl, _⟩ := h; rfl) | (obtain ⟨_, rfl, _⟩ := h; rfl) | (obtain ⟨_, _, rfl, _⟩ := h; rfl) | (obtain ⟨_, _, _, rfl, _⟩ := h; rfl) | (obtain ⟨_, _, _, _, rfl, _⟩ := h; rfl) | (obtain ⟨_, _, _, _, _, rfl, _⟩ := h; rfl) | (obtain ⟨_, _, _, _, _, _, rfl, _⟩ := h; rfl) | (obtain ⟨_, _, _, _, _, _, _, rfl, _⟩ := h; rfl) | (obtain ⟨_, _, _, _, _, _, _, _, rfl, _⟩ := h; rfl) | (obtain ⟨_, _, _, _, _, _, _, _, _, rfl, _⟩ := h; rfl) | (obtain ⟨_, _, _, _, _, _, _, _, _, _, rfl, _⟩ := h; rfl) | (obtain ⟨_, _, _, _, _, _, _, _, _, _, _, rfl, _⟩ := h; rfl) | (obtain ⟨_, _, _, _, _, _, _, _, _, _, _, _, rfl, _⟩ := h; rfl) | (obtain ⟨_, _, _, _, _, _, _, _, _, _, _, _, _, rfl, _⟩ := h; rfl) | (obtain ⟨_, _, _, _, _, _, _, _, _, _, _, _, _, _, rfl, _⟩ := h; rfl) | (obtain ⟨_, _, _, _, _, _, _, _, _, _, _, _, _, _, _, rfl, _⟩ := h; rfl) | (obtain ⟨_, _, _, _, _, _, _, _, _, _, _, _, _, _, _, _, rfl, _⟩ := h; rfl)) (fun cdv A outer s H vs Q E hr h => ?_), hm, F.kp, hb⟩
  obtain ⟨L, x, fl, ch, n, fs, c, rfl, hf, hc, hn, ok, hL, hL6, k⟩ := h
  refine ⟨_, (pss_cons (ps_set (i := 4) sc_grown.nd rfl (.inl rfl) (pe_lst (pa_cons (pv 2) pa_nil)))
      (pss_cons (ps_for PassesOwn.never rfl (pi_enum (by rfl) T.b_enumerate (pa_cons (pv 1) pa_nil)) (pg_tup (by rfl) (pgs_cons (pg_name (i := 5) sc_grown.nd rfl (.inl rfl)) (pgs_cons (pg_name (i := 6) sc_grown.nd rfl (.inl rfl)) pgs_nil)))
        (pss_cons (ps_set (i := 7) sc_grown.nd rfl (.inl rfl) (pe_ifExp (pt_cmpR (op_uEq hr.units) (pv 6) (pe_gi T.c_OUT) (nomark _)) pe_int (pe_ix ix_seq (pv 4) (pv 6) (fun _ _ => rfl))))
      (pss_one (ps_expr (pe_bm PySem.F.plainAttrs_list PySem.F.slot_list_append PySem.F.type_list_append mt_append (pv 4) (pa_cons (pe_op op_uAdd (pe_op op_sub (pe_op op_uMul (pv 0) (pe_ix ix_seq (pv 4) (pv 5) (fun _ _ => rfl))) (pe_op op_uMul (pe_op op_sub (pv 0) pe_int) (pv 7))) (pe_ix ix_seq (pv 3) (pv 5) (fun _ _ => rfl))) pa_nil))))))
      (pss_one (ps_ret (pv 4))))), ?_⟩
  try dsimp only [cxOf, Cx.nox, Cx.wish]
  show (_ : TS) _ [some _, some _, some _, some _, none, none, none, none] _
  o_readsAll
  rename_i r H1 hr e1 h1 N hN
  refine f_enum (xs := rng n fs) (fun i σ' H' => ∃ a b d, σ' = [some (.int L), some (.ref fl), some (.int x), some (.ref ch), some (.ref r), a, b, d] ∧ Same H H' ∧ IL H' r (i + 1) (gv L fs x c)) ⟨_, _, _, rfl, e1, h1⟩ ?_ ?_ ?_
  · rintro i σ' H2 hi ⟨a, b, d, rfl, e2, h2⟩
    exact (hf.same e2).sq
  · rintro i y σ' H2 T1 H3 hy ⟨a, b, d, rfl, e2, h2⟩ hT e3 h3
    have hi : i < n := by have := (List.getElem?_eq_some_iff.mp hy).1; rw [rng_len] at this; exact this
    rw [rng_at hi] at hy
    cases hy
    have hc3 := (hc.same e2).same e3
    have h23 := h2.same e3
    have okf := ok i
    o_readsAll
    refine jnE (fun y H' => y = .int (lowV (gv L fs x c) (fs i)) ∧ H' = H3) ?_ (fun Q' hQ => br (fun h => ?_) (fun h => ?_))
    · rintro y H' ⟨rfl, rfl⟩
      o_readsAll
      refine g_ixL h23.sq (atI_nat (rng_at (by omega))) ?_
      o_readsAll
      refine g_ixL hc3.sq (atI_nat (rng_at hi)) ?_
      o_readsAll
      refine ⟨_, _, _, rfl, Eg.Same.put (e2.trans e3) hr, ?_⟩
      show upd _ _ _ _ = _
      rw [upd_same, rng_succ (i + 1), gv_succ okf.2.1]
    · o_readsAll
      exact hQ _ _ ⟨by unfold lowV; rw [if_pos (by omega)], rfl⟩
    · o_readsAll
      refine g_ixL h23.sq (at_ofN (j := (fs i).toNat) (by omega) (rng_at (by omega))) ?_
      exact hQ _ _ ⟨by unfold lowV; rw [if_neg (by omega)], rfl⟩
  · rintro σ' H2 ⟨a, b, d, rfl, e2, h2⟩
    o_readsAll
    rw [rng_len] at h2
    exact k r H2 hr e2 h2
theorem c_grown {L x : Int} {fl ch : Addr} {n : Nat} {fs c : Nat → Int} {H : Hp} {Q : VK} {E : XK} (hf : IL H fl n fs) (hc : IL H ch n c) (hn : n ≤ 40) (ok : OkF fs) (hL : 0 ≤ L) (hL6 : L ≤ 6) (k : ∀ p H', H p = none → Same H H' → IL H' p (n + 1) (gv L fs x c) → Q (.ref p) H') : sp_grown K [.int L, .ref fl, .int x, .ref ch] H Q E := ⟨L, x, fl, ch, n, fs, c, rfl, hf, hc, hn, ok, hL, hL6, k⟩
def sp_row (c : Int) (v : Int → (Nat → Int) → Nat → Int) : Sp := fun vs H Q _ => ∃ (L : Int) (fl : Addr) (n : Nat) (fs : Nat → Int), vs = [.int L, .ref fl] ∧ IL H fl n fs ∧ n ≤ 40 ∧ OkF fs ∧ 0 ≤ L ∧ L ≤ 6 ∧ ∀ p H', H p = none → Same H H' → IL H' p (n + 1) (v L fs) → Q (.ref p) H'
def wd (L : Int) (fs : Nat → Int) (b : Nat) : Int := gv L fs 0 (fun _ => 1) b
theorem d_head_row (T : Txt K w mg Z) : Dfn P w K mg base 2 "head_row" ["lanes", "falls"] (sp_row 1 hd) := by
  obtain ⟨f, fd, F, hm, hb⟩ := T.f_head_row
  refine ⟨f, fd, F.ok sc_head_row (fun vs H Q E h => by first | (obtain ⟨rfl, _⟩ := h; rfl) | (obtain ⟨_, rfl, _⟩ := h; rfl) | (obtain ⟨_, _, rfl, _⟩ := h; rfl) | (obtain ⟨_, _, _, rfl, _⟩ := h; rfl) | (obtain ⟨_, _, _, _, rfl, _⟩ := h; rfl) | (obtain ⟨_, _, _, _, _, rfl, _⟩ := h; rfl) | (obtain ⟨_, _, _, _, _, _, rfl, _⟩ := h; rfl) | (obtain ⟨_, _, _, _, _, _, _, rfl, _⟩ := h; rfl) | (obtain ⟨_, _, _, _, _, _, _, _, rfl, _⟩ := h; rfl) | (obtain ⟨_, _, _, _, _, _, _, _, _, rfl, _⟩ := h; rfl) | (obtain ⟨_, _, _, _, _, _, _, _, _, _, rfl, _⟩ := h; rfl) | (obtain ⟨_, _, _, _, _, _, _, _, _, _, _, rfl, _⟩ := h; rfl) | (obtain ⟨_, _, _, _, _, _, _, _, _, _, _, _, rfl, _⟩ := h; rfl) | (obtain ⟨_, _, _, _, _, _, _, _, _, _, _, _, _, rfl, _⟩ := h; rfl) | (obtain ⟨_, _, _, _, _, _, _, _, _, _, _, _, _, _, rfl, _⟩ := h; rfl) | (obtain ⟨_, _, _, _, _, _, _, _, _, _, _, _, _, _, _, rfl, _⟩ := h; rfl) | (obtain ⟨_, _, _, _, _, _, _, _, _, _, _, _, _, _, _, _, rfl, _⟩ := h; rfl)) (fun cdv A outer s H vs Q E hr h => ?_), hm, F.kp, hb⟩
  obtain ⟨L, fl, n, fs, rfl, hf, hn, ok, hL, hL6, k⟩ := h
  have D_grown := d_grown (P := P) (base := base) T
  refine ⟨_, (pss_one (ps_ret (pe_dfn D_grown (hr.mono (by decide)) (by rfl) (pa_cons (pv 0) (pa_cons (pv 1) (pa_cons pe_int (pa_cons (pe_lc (own := [("_", 2)]) (by rfl) sc_head_row.nd (pi_list (pv 1)) (blkOk_by (N := n_head_row) (sc := defScope st_head_row) (by decide +kernel)) (fun _ _ _ _ _ => (pg_name (i := 2) sc_head_row.nd rfl (.inl rfl))) (fun _ _ _ _ _ => pts_nil) (fun _ _ _ _ _ => pe_int)) pa_nil))))))), ?_⟩
  try dsimp only [cxOf, Cx.nox, Cx.wish]
  show (_ : TS) _ [some _, some _, none] _
  o_readsAll
  refine l_lstP (fun i => .int 0) (xs := rng n fs) hf.sq (fun x => rfl) (fun D i x H' hx hD e hl => ?_) fun q H2 hq e2 h2 => ?_
  · have hi := (List.getElem?_eq_some_iff.mp hx).1
    rw [rng_len] at hi
    o_readsAll
    exact g_itemP e hl hD (by rw [sizeLine_eq]; omega) rfl
  · rw [rng_len] at h2
    o_readsAll
    refine c_grown (hf.same e2) h2 hn ok hL hL6 fun p H3 hp e3 h3 => ?_
    exact k p H3 (e2.free hp) (e2.trans e3) h3
theorem d_worth_row (T : Txt K w mg Z) : Dfn P w K mg base 2 "worth_row" ["lanes", "falls"] (sp_row 0 wd) := by
  obtain ⟨f, fd, F, hm, hb⟩ := T.f_worth_row
  refine ⟨f, fd, F.ok sc_worth_row (fun vs H Q E h => by first | (obtain ⟨rfl, _⟩ := h; rfl) | (obtain ⟨_, rfl, _⟩ := h; rfl) | (obtain ⟨_, _, rfl, _⟩ := h; rfl) | (obtain ⟨_, _, _, rfl, _⟩ := h; rfl) | (obtain ⟨_, _, _, _, rfl, _⟩ := h; rfl) | (obtain ⟨_, _, _, _, _, rfl, _⟩ := h; rfl) | (obtain ⟨_, _, _, _, _, _, rfl, _⟩ := h; rfl) | (obtain ⟨_, _, _, _, _, _, _, rfl, _⟩ := h; rfl) | (obtain ⟨_, _, _, _, _, _, _, _, rfl, _⟩ := h; rfl) | (obtain ⟨_, _, _, _, _, _, _, _, _, rfl, _⟩ := h; rfl) | (obtain ⟨_, _, _, _, _, _, _, _, _, _, rfl, _⟩ := h; rfl) | (obtain ⟨_, _, _, _, _, _, _, _, _, _, _, rfl, _⟩ := h; rfl) | (obtain ⟨_, _, _, _, _, _, _, _, _, _, _, _, rfl, _⟩ := h; rfl) | (obtain ⟨_, _, _, _, _, _, _, _, _, _, _, _, _, rfl, _⟩ := h; rfl) | (obtain ⟨_, _, _, _, _, _, _, _, _, _, _, _, _, _, rfl, _⟩ := h; rfl) | (obtain ⟨_, _, _, _, _, _, _, _, _, _, _, _, _, _, _, rfl, _⟩ := h; rfl) | (obtain ⟨_, _, _, _, _, _, _, _, _, _, _, _, _, _, _, _, rfl, _⟩ := h; rfl)) (fun cdv A outer s H vs Q E hr h => ?_), hm, F.kp, hb⟩
  obtain ⟨L, fl, n, fs, rfl, hf, hn, ok, hL, hL6, k⟩ := h
  have D_grown := d_grown (P := P) (base := base) T
  refine ⟨_, (pss_one (ps_ret (pe_dfn D_grown (hr.mono (by decide)) (by rfl) (pa_cons (pv 0) (pa_cons (pv 1) (pa_cons pe_int (pa_cons (pe_lc (own := [("_", 2)]) (by rfl) sc_worth_row.nd (pi_list (pv 1)) (blkOk_by (N := n_worth_row) (sc := defScope st_worth_row) (by decide +kernel)) (fun _ _ _ _ _ => (pg_name (i := 2) sc_worth_row.nd rfl (.inl rfl))) (fun _ _ _ _ _ => pts_nil) (fun _ _ _ _ _ => pe_int)) pa_nil))))))), ?_⟩
  try dsimp only [cxOf, Cx.nox, Cx.wish]
  show (_ : TS) _ [some _, some _, none] _
  o_readsAll
  refine l_lstP (fun i => .int 1) (xs := rng n fs) hf.sq (fun x => rfl) (fun D i x H' hx hD e hl => ?_) fun q H2 hq e2 h2 => ?_
  · have hi := (List.getElem?_eq_some_iff.mp hx).1
    rw [rng_len] at hi
    o_readsAll
    exact g_itemP e hl hD (by rw [sizeLine_eq]; omega) rfl
  · rw [rng_len] at h2
    o_readsAll
    refine c_grown (hf.same e2) h2 hn ok hL hL6 fun p H3 hp e3 h3 => ?_
    exact k p H3 (e2.free hp) (e2.trans e3) h3
/-- the rows of loads -/
def RowsAt (H : Hp) (ps : List Addr) (n : Nat) (L : Int) (fs : Nat → Int) : Prop := ∀ a q, ps[a]? = some q → IL H q (n + 1) (ld L fs a)
theorem RowsAt.snoc {H : Hp} {qs : List Addr} {n : Nat} {L : Int} {fs : Nat → Int} {r D : Addr} {o : HO} (h : RowsAt H qs n L fs) (hr : IL H r (n + 1) (ld L fs qs.length)) (e : H D = some (.lst (qs.map V.ref))) : RowsAt (upd H D o) (qs ++ [r]) n L fs := by
  intro a q hq
  by_cases ha : a < qs.length
  · rw [List.getElem?_append_left ha] at hq
    show upd _ _ _ _ = _
    rw [upd_ne (il_ne (h a q hq) e)]
    exact h a q hq
  · have ha2 := (List.getElem?_eq_some_iff.mp hq).1
    rw [List.length_append, List.length_cons, List.length_nil] at ha2
    rw [List.getElem?_append_right (by omega), show a - qs.length = 0 by omega] at hq
    cases hq
    show upd _ _ _ _ = _
    rw [upd_ne (il_ne hr e), show a = qs.length by omega]
    exact hr
theorem RowsAt.same {H H' : Hp} {ps : List Addr} {n : Nat} {L : Int} {fs : Nat → Int} (h : RowsAt H ps n L fs) (e : Same H H') : RowsAt H' ps n L fs := fun a q hq => (h a q hq).same e
def sp_lrows : Sp := fun vs H Q _ => ∃ (L : Int) (fl : Addr) (n : Nat) (fs : Nat → Int), vs = [.int L, .ref fl] ∧ IL H fl n fs ∧ n ≤ 40 ∧ OkF fs ∧ 0 ≤ L ∧ L ≤ 6 ∧ ∀ p ps H', H p = none → Same H H' → H' p = some (.lst (ps.map V.ref)) → ps.length = n → RowsAt H' ps n L fs → (∀ q ∈ ps, H q = none) → Q (.ref p) H'
theorem d_load_rows (T : Txt K w mg Z) : Dfn P w K mg base 2 "load_rows" ["lanes", "falls"] (sp_lrows) := by
  obtain ⟨f, fd, F, hm, hb⟩ := T.f_load_rows
  refine ⟨f, fd, F.ok sc_load_rows (fun vs H Q E h => by first | (obtain ⟨rfl, _⟩ := h; rfl) | (obtain ⟨_, rfl, _⟩ := h; rfl) | (obtain ⟨_, _, rfl, _⟩ := h; rfl) | (obtain ⟨_, _, _, rfl, _⟩ := h; rfl) | (obtain ⟨_, _, _, _, rfl, _⟩ := h; rfl) | (obtain ⟨_, _, _, _, _, rfl, _⟩ := h; rfl) | (obtain ⟨_, _, _, _, _, _, rfl, _⟩ := h; rfl) | (obtain ⟨_, _, _, _, _, _, _, rfl, _⟩ := h; rfl) | (obtain ⟨_, _, _, _, _, _, _, _, rfl, _⟩ := h; rfl) | (obtain ⟨_, _, _, _, _, _, _, _, _, rfl, _⟩ := h; rfl) | (obtain ⟨_, _, _, _, _, _, _, _, _, _, rfl, _⟩ := h; rfl) | (obtain ⟨_, _, _, _, _, _, _, _, _, _, _, rfl, _⟩ := h; rfl) | (obtain ⟨_, _, _, _, _, _, _, _, _, _, _, _, rfl, _⟩ := h; rfl) | (obtain ⟨_, _, _, _, _, _, _, _, _, _, _, _, _, rfl, _⟩ := h; rfl) | (obtain ⟨_, _, _, _, _, _, _, _, _, _, _, _, _, _, rfl, _⟩ := h; rfl) | (obtain ⟨_, _, _, _, _, _, _, _, _, _, _, _, _, _, _, rfl, _⟩ := h; rfl) | (obtain ⟨_, _, _, _, _, _, _, _, _, _, _, _, _, _, _, _, rfl, _⟩ := h; rfl)) (fun cdv A outer s H vs Q E hr h => ?_), hm, F.kp, hb⟩
  obtain ⟨L, fl, n, fs, rfl, hf, hn, ok, hL, hL6, k⟩ := h
  have D_grown := d_grown (P := P) (base := base) T
  refine ⟨_, (pss_cons (ps_set (i := 2) sc_load_rows.nd rfl (.inr rfl) (pe_callTy call_uRng (by rfl) T.b_range bt_range (pa_cons (pe_callB call_uLen (by rfl) T.b_len bt_len (pa_cons (pv 1) pa_nil)) pa_nil)))
      (pss_one (ps_ret (pe_lc (own := [("a", 3)]) (by rfl) sc_load_rows.nd (pi_range1 (by rfl) T.b_range (pa_cons (pe_callB call_uLen (by rfl) T.b_len bt_len (pa_cons (pv 1) pa_nil)) pa_nil)) (blkOk_by (N := n_load_rows) (sc := defScope st_load_rows) (by decide +kernel)) (fun _ _ _ _ _ => (pg_name (i := 3) sc_load_rows.nd rfl (.inr rfl))) (fun _ _ _ _ _ => pts_nil) (fun _ _ _ _ _ => (pe_dfn D_grown (hr.mono (by decide)) (by rfl) (pa_cons (pv 0) (pa_cons (pv 1) (pa_cons pe_int (pa_cons (pe_lc (own := [("b", 4)]) (by rfl) sc_load_rows.nd (pi_rng (pv 2)) (blkOk_by (N := n_load_rows) (sc := (⟨.function, [(PySem.Str.ofString ".0", .local), (PySem.Str.ofString "a", .cell), (PySem.Str.ofString "grown", .globalImplicit), (PySem.Str.ofString "falls", .cell), (PySem.Str.ofString "lanes", .cell), (PySem.Str.ofString "rungs", .cell)], false, false, []⟩ : Scope)) (by decide +kernel)) (fun _ _ _ _ _ => (pg_name (i := 4) sc_load_rows.nd rfl (.inl rfl))) (fun _ _ _ _ _ => pts_nil) (fun _ _ _ _ _ => (pe_ifExp (pt_cmpR (op_uEqK (K := K) rfl hr.units) (pv 4) (pv 3) (nomark _)) pe_int pe_int))) pa_nil)))))))))), ?_⟩
  try dsimp only [cxOf, Cx.nox, Cx.wish]
  show (_ : TS) _ [some _, some _, none, none, none] _
  o_readsAll
  rename_i N hN rp H1 hrp e1 h1
  rw [rng_len, Int.toNat_natCast]
  refine l_it walk_range (fun D i acc H' => ∃ ps : List Addr, acc = ps.map V.ref ∧ ps.length = i ∧ Same H1 H' ∧ RowsAt H' ps n L fs ∧ ∀ q ∈ ps, H1 q = none) (fun D hD => ⟨[], rfl, rfl, Eg.Same.put (Same.refl _) hD, (fun _ _ h => nomatch h), fun _ h => nomatch h⟩) (fun _ _ _ _ _ _ _ _ => trivial) (fun D i x acc H2 H3 hD hi e l p y => ?_) (fun D acc H' hD e l p => ?_)
  · obtain ⟨ps, rfl, hpl, e2, hR, hfr⟩ := p
    obtain ⟨y1, y2⟩ := y
    subst y1 y2
    refine ⟨rfl, ?_⟩
    have h3 := e2 _ _ h1
    rw [rng_len] at h3
    o_readsAll
    refine l_rngP (fun b => .int (dl i b)) (fun x => rfl) (fun D' b H4 hb hD' e4 h4 => ?_) fun q H4 hq e4 h4 => ?_
    · rw [Int.sub_zero, Int.toNat_natCast] at hb
      o_readsAll
      refine br (fun h => ?_) (fun h => ?_)
      · o_readsAll
        exact g_itemP e4 h4 hD' (by rw [sizeLine_eq]; omega) (by unfold Ld.dl; rw [if_pos (by omega)])
      · o_readsAll
        exact g_itemP e4 h4 hD' (by rw [sizeLine_eq]; omega) (by unfold Ld.dl; rw [if_neg (by omega)])
    · rw [Int.sub_zero, Int.toNat_natCast] at h4
      o_readsAll
      refine c_grown (((hf.same e1).same e2).same e4) h4 hn ok hL hL6 fun r H5 hr5 e5 h5 => ?_
      refine g_item (e5 _ _ (e4 _ _ e)) l (by rw [sizeLine_eq]; omega) ⟨ps ++ [r], by rw [List.map_append]; rfl, by rw [List.length_append, hpl]; rfl, Eg.Same.put ((e2.trans e4).trans e5) hD, RowsAt.snoc ((hR.same e4).same e5) (by rw [hpl]; exact h5) (e5 _ _ (e4 _ _ e)), fun q hq => by
        rcases List.mem_append.mp hq with h | h
        · exact hfr q h
        · rw [List.mem_singleton.mp h]; exact (e2.trans e4).free hr5⟩
  · obtain ⟨ps, rfl, hpl, e2, hR, hfr⟩ := p
    exact k D ps H' (e1.free hD) (e1.trans e2) e hpl hR fun q hq => e1.free (hfr q hq)
end
end L29

namespace L29
open SX Ld
section
variable {P : Program} {w : World} {K : PySem.W.Frag} {mg : Str → Option Value} {base : Heap} {Z : Ad}
theorem c_draw {a : Addr} {m : Int} {H : Hp} {Q : VK} {E : XK} (h0 : 0 < m) (h1 : m < 2 ^ 200) (hs : Stk H a) (k : ∀ r H', 0 ≤ r → r < m → Stk H' a → Off a H H' → Q (.int r) H') : sp_draw [.ref a, .int m] H Q E := ⟨a, m, rfl, h0, h1, hs, k⟩
theorem c_stock {a : Addr} {ns : List Int} {at_ : Nat} {H : Hp} {Q : VK} {E : XK} (h : SqL K H a (ns.map V.int)) (hn : ns.length ≤ 63) (ha : at_ < 1000000) (k : ∀ p H', H p = none → Same H H' → Stk H' p → Q (.ref p) H') : sp_stock K [.ref a, .int (at_ : Int)] H Q E := ⟨a, ns, at_, rfl, h, hn, ha, k⟩
theorem Stk.same {H H' : Hp} {a : Addr} (h : Stk H a) (e : Same H H') : Stk H' a := by obtain ⟨x, y, z, h⟩ := h; exact ⟨x, y, z, e _ _ h⟩
theorem Stk.ne {H : Hp} {a b : Addr} (h : Stk H a) (hb : H b = none) : a ≠ b := by obtain ⟨x, y, z, h⟩ := h; exact ne_of_none h hb
theorem Stk.put {H : Hp} {a b : Addr} {o : HO} (h : Stk H a) (n : a ≠ b) : Stk (upd H b o) a := by obtain ⟨x, y, z, h⟩ := h; exact ⟨x, y, z, by rw [upd_ne n]; exact h⟩
theorem Off.putN {H H' : Hp} {a b : Addr} {o : HO} (h : Off a H H') (n : H b = none) : Off a H (upd H' b o) := fun c u hc q => by rw [upd_ne (ne_of_none q n)]; exact h c u hc q
theorem Stk.free {H H' : Hp} {a p : Addr} (s : Stk H' a) (o : Off a H H') (h : H' p = none) : H p = none := by obtain ⟨x, y, z, q⟩ := s; exact off_free o q h
/-- falls so far -/
def FalL (l : List Int) : Prop := ∀ (j : Nat) (f : Int), l[j]? = some f → -1 ≤ f ∧ f ≤ j ∧ (0 < j → f ≤ (j : Int) - 1)
theorem FalL.ok {l : List Int} (h : FalL l) : OkF (fn l) := fun i => by
  unfold fn
  rw [List.getD_eq_getElem?_getD]
  cases hi : l[i]? with
  | none => simp; omega
  | some f => exact h i f hi
theorem FalL.snoc {l : List Int} {f : Int} (h : FalL l) (h1 : -1 ≤ f) (h2 : f ≤ l.length) (h3 : 0 < l.length → f ≤ (l.length : Int) - 1) : FalL (l ++ [f]) := fun j g hg => by
  by_cases hj : j < l.length
  · rw [List.getElem?_append_left hj] at hg
    exact h j g hg
  · have hl := (List.getElem?_eq_some_iff.mp hg).1
    rw [List.length_append, List.length_cons, List.length_nil] at hl
    rw [List.getElem?_append_right (by omega), show j - l.length = 0 by omega] at hg
    cases hg
    rw [show j = l.length by omega]
    exact ⟨h1, h2, h3⟩
def sp_falls : Sp := fun vs H Q _ => ∃ (st : Addr) (n : Nat), vs = [.ref st, .int (n : Int)] ∧ n ≤ 41 ∧ Stk H st ∧ ∀ p (l : List Int) H', H p = none → Stk H' st → Off st H H' → H' p = some (.lst (l.map V.int)) → l.length = n → FalL l → Q (.ref p) H'
theorem d_law_e_falls (T : Txt K w mg Z) : Dfn P w K mg base 2 "_law_e_falls" ["stock", "rungs"] (sp_falls) := by
  obtain ⟨f, fd, F, hm, hb⟩ := T.f_law_e_falls
  refine ⟨f, fd, F.ok sc_law_e_falls (fun vs H Q E h => by first | (obtain ⟨rfl, _⟩ := h; rfl) | (obtain ⟨_, rfl, _⟩ := h; rfl) | (obtain ⟨_, _, rfl, _⟩ := h; rfl) | (obtain ⟨_, _, _, rfl, _⟩ := h; rfl) | (obtain ⟨_, _, _, _, rfl, _⟩ := h; rfl) | (obtain ⟨_, _, _, _, _, rfl, _⟩ := h; rfl) | (obtain ⟨_, _, _, _, _, _, rfl, _⟩ := h; rfl) | (obtain ⟨_, _, _, _, _, _, _, rfl, _⟩ := h; rfl) | (obtain ⟨_, _, _, _, _, _, _, _, rfl, _⟩ := h; rfl) | (obtain ⟨_, _, _, _, _, _, _, _, _, rfl, _⟩ := h; rfl) | (obtain ⟨_, _, _, _, _, _, _, _, _, _, rfl, _⟩ := h; rfl) | (obtain ⟨_, _, _, _, _, _, _, _, _, _, _, rfl, _⟩ := h; rfl) | (obtain ⟨_, _, _, _, _, _, _, _, _, _, _, _, rfl, _⟩ := h; rfl) | (obtain ⟨_, _, _, _, _, _, _, _, _, _, _, _, _, rfl, _⟩ := h; rfl) | (obtain ⟨_, _, _, _, _, _, _, _, _, _, _, _, _, _, rfl, _⟩ := h; rfl) | (obtain ⟨_, _, _, _, _, _, _, _, _, _, _, _, _, _, _, rfl, _⟩ := h; rfl) | (obtain ⟨_, _, _, _, _, _, _, _, _, _, _, _, _, _, _, _, rfl, _⟩ := h; rfl)) (fun cdv A outer s H vs Q E hr h => ?_), hm, F.kp, hb⟩
  obtain ⟨st, n, rfl, n40, hs, k⟩ := h
  have D_law_draw := d_law_draw (P := P) (base := base) T
  refine ⟨_, (pss_cons (ps_set (i := 2) sc_law_e_falls.nd rfl (.inl rfl) (pe_dfn D_law_draw (hr.mono (by decide)) (by rfl) (pa_cons (pv 0) (pa_cons pe_int pa_nil))))
      (pss_cons (ps_set (i := 3) sc_law_e_falls.nd rfl (.inl rfl) (pe_lst pa_nil))
      (pss_cons (ps_for PassesOwn.never rfl (pi_range1 (by rfl) T.b_range (pa_cons (pv 1) pa_nil)) (pg_name (i := 4) sc_law_e_falls.nd rfl (.inl rfl))
        (pss_one (ps_if (pt_cmpR (op_uEq hr.units) (pv 2) pe_int (nomark _)) (pss_one (ps_expr (pe_bm PySem.F.plainAttrs_list PySem.F.slot_list_append PySem.F.type_list_append mt_append (pv 3) (pa_cons pe_int pa_nil)))) (pss_one (ps_if (pt_cmpR (op_uEq hr.units) (pv 2) pe_int (nomark _)) (pss_one (ps_expr (pe_bm PySem.F.plainAttrs_list PySem.F.slot_list_append PySem.F.type_list_append mt_append (pv 3) (pa_cons (pe_callB (call_uMax2 rfl) (by rfl) T.b_max bt_max (pa_cons pe_int (pa_cons (pe_op op_sub (pv 4) pe_int) pa_nil))) pa_nil)))) (pss_one (ps_if (pt_cmpR (op_uEq hr.units) (pv 2) pe_int (nomark _)) (pss_one (ps_expr (pe_bm PySem.F.plainAttrs_list PySem.F.slot_list_append PySem.F.type_list_append mt_append (pv 3) (pa_cons (pe_un un_neg pe_int) pa_nil)))) (pss_one (ps_if (pt_cmpR op_lt (pv 2) pe_int (nomark _)) (pss_one (ps_expr (pe_bm PySem.F.plainAttrs_list PySem.F.slot_list_append PySem.F.type_list_append mt_append (pv 3) (pa_cons (pe_ifExp (pt_cmpR op_gt (pv 4) pe_int (nomark _)) (pe_dfn D_law_draw (hr.mono (by decide)) (by rfl) (pa_cons (pv 0) (pa_cons (pv 4) pa_nil))) pe_int) pa_nil)))) (pss_one (ps_expr (pe_bm PySem.F.plainAttrs_list PySem.F.slot_list_append PySem.F.type_list_append mt_append (pv 3) (pa_cons (pe_ifExp (pt_cmpR op_gt (pv 4) pe_int (nomark _)) (pe_op op_sub (pe_dfn D_law_draw (hr.mono (by decide)) (by rfl) (pa_cons (pv 0) (pa_cons (pe_op op_uAdd (pv 4) pe_int) pa_nil))) pe_int) (pe_op op_sub pe_int (pe_dfn D_law_draw (hr.mono (by decide)) (by rfl) (pa_cons (pv 0) (pa_cons pe_int pa_nil))))) pa_nil)))))))))))))
      (pss_one (ps_ret (pv 3)))))), ?_⟩
  try dsimp only [cxOf, Cx.nox, Cx.wish]
  show (_ : TS) _ [some _, some _, none, none, none] _
  o_readsAll
  refine c_draw (by decide) (by decide) hs fun kd H1 kd0 kd1 s1 o1 => ?_
  o_readsAll
  rename_i fl H2 ffl e2 h2 N hN
  rw [Int.toNat_natCast]
  have ffl0 : H fl = none := s1.free o1 ffl
  have n1 : st ≠ fl := s1.ne ffl
  refine f_rng (fun i σ' H' => ∃ (x : Option V) (l : List Int), σ' = [some (.ref st), some (.int (n : Int)), some (.int kd), some (.ref fl), x] ∧ Stk H' st ∧ Off st H H' ∧ H' fl = some (.lst (l.map V.int)) ∧ l.length = i ∧ FalL l) ⟨_, [], rfl, s1.same e2, o1.same e2, h2, rfl, fun _ _ h => nomatch h⟩ ?_ ?_
  · rintro i σ' H3 hi ⟨x, l, rfl, s3, o3, h3, hl, hF⟩
    rw [Int.zero_add]
    have hsz : (l.map V.int).length < sizeLine := by rw [List.length_map, sizeLine_eq]; omega
    have fin : ∀ (f : Int) (H4 : Hp), Stk H4 st → Off st H H4 → -1 ≤ f → f ≤ i → (0 < i → f ≤ (i : Int) - 1) → ∃ (x' : Option V) (l' : List Int), [some (V.ref st), some (.int (n : Int)), some (.int kd), some (.ref fl), some (.int (i : Int))] = [some (.ref st), some (.int (n : Int)), some (.int kd), some (.ref fl), x'] ∧ Stk (upd H4 fl (.lst (l.map V.int ++ [.int f]))) st ∧ Off st H (upd H4 fl (.lst (l.map V.int ++ [.int f]))) ∧ (upd H4 fl (.lst (l.map V.int ++ [.int f]))) fl = some (.lst (l'.map V.int)) ∧ l'.length = i + 1 ∧ FalL l' := fun f H4 s4 o4 f1 f2 f3 =>
      ⟨_, l ++ [f], rfl, s4.put n1, Off.putN o4 ffl0, by rw [upd_same, List.map_append]; rfl, by rw [List.length_append, hl]; rfl, hF.snoc f1 (by omega) (by omega)⟩
    have hd : ∀ {H4 : Hp}, Off st H3 H4 → H4 fl = some (.lst (l.map V.int)) := fun o => o _ _ n1.symm h3
    o_readsAll
    refine br (fun h => ?_) (fun h => ?_)
    · o_readsAll
      exact fin _ _ s3 o3 (by decide) (by omega) (by omega)
    · o_readsAll
      refine br (fun h => ?_) (fun h => ?_)
      · o_readsAll
        exact fin _ _ s3 o3 (by split <;> omega) (by split <;> omega) (by split <;> omega)
      · o_readsAll
        refine br (fun h => ?_) (fun h => ?_)
        · o_readsAll
          exact fin _ _ s3 o3 (by decide) (by omega) (by omega)
        · o_readsAll
          refine br (fun h => ?_) (fun h => ?_)
          · o_readsAll
            refine br (fun h => ?_) (fun h => ?_)
            · o_readsAll
              refine c_draw (by omega) (by omega) s3 fun r H4 r0 r1 s4 o4 => ?_
              have h4 := hd o4
              o_readsAll
              exact fin _ _ s4 (o3.trans o4) (by omega) (by omega) (by omega)
            · o_readsAll
              exact fin _ _ s3 o3 (by decide) (by omega) (by omega)
          · o_readsAll
            refine br (fun h => ?_) (fun h => ?_)
            · o_readsAll
              refine c_draw (by omega) (by omega) s3 fun r H4 r0 r1 s4 o4 => ?_
              have h4 := hd o4
              o_readsAll
              exact fin _ _ s4 (o3.trans o4) (by omega) (by omega) (by omega)
            · o_readsAll
              refine c_draw (by omega) (by omega) s3 fun r H4 r0 r1 s4 o4 => ?_
              have h4 := hd o4
              o_readsAll
              exact fin _ _ s4 (o3.trans o4) (by omega) (by omega) (by omega)
  · rintro σ' H3 ⟨x, l, rfl, s3, o3, h3, hl, hF⟩
    o_readsAll
    exact k fl l H3 ffl0 s3 o3 h3 hl hF
end
end L29

namespace L29
set_option exponentiation.threshold 2000
open SX Ld
section
variable {P : Program} {w : World} {K : PySem.W.Frag} {mg : Str → Option Value} {base : Heap} {Z : Ad}
theorem c_mat {n : Nat} {x y : V} {H : Hp} {Q : VK} {E : XK} (h : Alk H n x y) (k : ∀ H', Same H H' → Q (.bl true) H') : sp_mat n [x, y] H Q E := ⟨x, y, rfl, h, k⟩
/-- tuples, lists of plain values -/
def Flat : V → Prop
  | .int _ => True
  | .str _ => True
  | .bl _ => True
  | _ => False
theorem alk_flat {H : Hp} {m : Nat} {v : V} (h : Flat v) : Alk H (m + 1) v v := by
  cases v <;> first | exact .inr (.inl ⟨_, rfl, rfl⟩) | exact .inr (.inr (.inl ⟨_, rfl, rfl⟩)) | exact .inr (.inr (.inr (.inl ⟨_, rfl, rfl⟩))) | exact h.elim
theorem alk_tup {H : Hp} {m : Nat} {a b : Addr} {xs : List V} (ha : H a = some (.tup xs)) (hb : H b = some (.tup xs)) (hl : xs.length ≤ 1000000) (hf : ∀ v ∈ xs, Flat v) : Alk H (m + 2) (.ref a) (.ref b) := by
  refine .inr (.inr (.inr (.inr (.inl ⟨a, b, _, _, rfl, rfl, ha, hb, rfl, hl, fun i u v hu hv => ?_⟩))))
  rw [hu] at hv
  cases hv
  exact alk_flat (hf u (List.mem_of_getElem? hu))
theorem sh_held : SeqAt.shaped (.tuple [.str "held"]) = true := by decide +kernel
theorem eq_held : PyData.eqv (.tuple [.str "held"]) (.tuple [.str "held"]) = true := by decide +kernel
theorem g_neHeld {a b : Addr} {H : Hp} {Q : VK} (ha : H a = some (.tup [.str "held"])) (hb : H b = some (.tup [.str "held"])) (k : Q (.bl false) H) : uNe K (.ref a) (.ref b) H Q := by
  refine .inr ⟨.tuple [.str "held"], .tuple [.str "held"], .tup (.of ha) (.cons (.str _) .nil), .tup (.of hb) (.cons (.str _) .nil), sh_held, sh_held, ?_⟩
  rw [eq_held]
  exact k
theorem g_eqHeld {a b : Addr} {H : Hp} {Q : VK} (ha : H a = some (.tup [.str "held"])) (hb : H b = some (.tup [.str "held"])) (k : Q (.bl true) H) : uEq K (.ref a) (.ref b) H Q := by
  refine .inr ⟨.tuple [.str "held"], .tuple [.str "held"], .tup (.of ha) (.cons (.str _) .nil), .tup (.of hb) (.cons (.str _) .nil), sh_held, sh_held, ?_⟩
  rw [eq_held]
  exact k
theorem alk_il {H : Hp} {m n : Nat} {p q : Addr} {f : Nat → Int} (hp : IL H p n f) (hq : IL H q n f) (h : n ≤ 1000000) : Alk H (m + 2) (.ref p) (.ref q) := by
  refine .inr (.inr (.inr (.inr (.inr ⟨p, q, _, _, rfl, rfl, hp, hq, rfl, by rw [rng_len]; exact h, fun i u v hu hv => ?_⟩))))
  rw [hu] at hv
  cases hv
  have hi := (List.getElem?_eq_some_iff.mp hu).1
  rw [rng_len] at hi
  rw [rng_at hi] at hu
  cases hu
  exact alk_flat trivial
end
end L29

namespace L29
open SX Ld
section
variable {P : Program} {w : World} {K : PySem.W.Frag} {mg : Str → Option Value} {base : Heap} {Z : Ad}
theorem c_fallsL {st : Addr} {n : Nat} {H : Hp} {Q : VK} {E : XK} (n40 : n ≤ 41) (hs : Stk H st) (k : ∀ p (l : List Int) H', H p = none → Stk H' st → Off st H H' → H' p = some (.lst (l.map V.int)) → l.length = n → FalL l → Q (.ref p) H') : sp_falls [.ref st, .int (n : Int)] H Q E := ⟨st, n, rfl, n40, hs, k⟩
theorem c_falls {st : Addr} {n : Nat} {H : Hp} {Q : VK} {E : XK} (n0 : 0 < n) (n40 : n ≤ 40) (hs : Stk H st) (k : ∀ p fs H', H p = none → Stk H' st → Off st H H' → IL H' p n fs → OkF fs → Q (.ref p) H') : sp_falls [.ref st, .int (n : Int)] H Q E :=
  c_fallsL (by omega) hs fun p l H' hp hs' ho h hl hF => k p (fn l) H' hp hs' ho (by unfold IL; rw [h, rng_fn, hl]) hF.ok
/-- a ladder as the law has it -/
def PlA (H : Hp) (p : Addr) (L : Int) (n : Nat) (fs : Nat → Int) (ret : Bool) : Prop := ∃ fl, H p = some (.lst [.int L, .ref fl, .bl ret]) ∧ IL H fl n fs
theorem PlA.same {H H' : Hp} {p : Addr} {L : Int} {n : Nat} {fs : Nat → Int} {ret : Bool} (h : PlA H p L n fs ret) (e : Same H H') : PlA H' p L n fs ret := by
  obtain ⟨fl, a, b⟩ := h
  exact ⟨fl, e _ _ a, b.same e⟩
def sp_elad : Sp := fun vs H Q _ => ∃ (st : Addr) (lo hi wi : Nat), vs = [.ref st, .int (lo : Int), .int (hi : Int), .int (wi : Int)] ∧ 1 ≤ lo ∧ lo ≤ hi ∧ hi ≤ 40 ∧ 3 ≤ wi ∧ wi ≤ 6 ∧ Stk H st ∧ ∀ p L n fs ret H', H p = none → Stk H' st → Off st H H' → PlA H' p L n fs ret → (∀ fl, H' p = some (.lst [.int L, .ref fl, .bl ret]) → st ≠ fl) → 2 ≤ L → L ≤ wi → lo ≤ n → n ≤ hi → OkF fs → (∃ l : List Int, l.length = n ∧ fs = fn l ∧ FalL l) → Q (.ref p) H'
theorem d_law_e_ladder (T : Txt K w mg Z) : Dfn P w K mg base 3 "_law_e_ladder" ["stock", "least", "most", "widest"] (sp_elad) := by
  obtain ⟨f, fd, F, hm, hb⟩ := T.f_law_e_ladder
  refine ⟨f, fd, F.ok sc_law_e_ladder (fun vs H Q E h => by first | (obtain ⟨rfl, _⟩ := h; rfl) | (obtain ⟨_, rfl, _⟩ := h; rfl) | (obtain ⟨_, _, rfl, _⟩ := h; rfl) | (obtain ⟨_, _, _, rfl, _⟩ := h; rfl) | (obtain ⟨_, _, _, _, rfl, _⟩ := h; rfl) | (obtain ⟨_, _, _, _, _, rfl, _⟩ := h; rfl) | (obtain ⟨_, _, _, _, _, _, rfl, _⟩ := h; rfl) | (obtain ⟨_, _, _, _, _, _, _, rfl, _⟩ := h; rfl) | (obtain ⟨_, _, _, _, _, _, _, _, rfl, _⟩ := h; rfl) | (obtain ⟨_, _, _, _, _, _, _, _, _, rfl, _⟩ := h; rfl) | (obtain ⟨_, _, _, _, _, _, _, _, _, _, rfl, _⟩ := h; rfl) | (obtain ⟨_, _, _, _, _, _, _, _, _, _, _, rfl, _⟩ := h; rfl) | (obtain ⟨_, _, _, _, _, _, _, _, _, _, _, _, rfl, _⟩ := h; rfl) | (obtain ⟨_, _, _, _, _, _, _, _, _, _, _, _, _, rfl, _⟩ := h; rfl) | (obtain ⟨_, _, _, _, _, _, _, _, _, _, _, _, _, _, rfl, _⟩ := h; rfl) | (obtain ⟨_, _, _, _, _, _, _, _, _, _, _, _, _, _, _, rfl, _⟩ := h; rfl) | (obtain ⟨_, _, _, _, _, _, _, _, _, _, _, _, _, _, _, _, rfl, _⟩ := h; rfl)) (fun cdv A outer s H vs Q E hr h => ?_), hm, F.kp, hb⟩
  obtain ⟨st, lo, hi, wi, rfl, lo1, lohi, hi40, wi3, wi6, hs, k⟩ := h
  have D_law_draw := d_law_draw (P := P) (base := base) T
  have D_law_e_falls := d_law_e_falls (P := P) (base := base) T
  refine ⟨_, (pss_cons (ps_set (i := 4) sc_law_e_ladder.nd rfl (.inl rfl) (pe_op op_uAdd (pv 1) (pe_dfn D_law_draw (hr.mono (by decide)) (by rfl) (pa_cons (pv 0) (pa_cons (pe_op op_uAdd (pe_op op_sub (pv 2) (pv 1)) pe_int) pa_nil)))))
      (pss_cons (ps_set (i := 5) sc_law_e_ladder.nd rfl (.inl rfl) (pe_ifExp (pt_cmpR op_gt (pe_dfn D_law_draw (hr.mono (by decide)) (by rfl) (pa_cons (pv 0) (pa_cons pe_int pa_nil))) pe_int (nomark _)) pe_int (pe_op op_uAdd pe_int (pe_dfn D_law_draw (hr.mono (by decide)) (by rfl) (pa_cons (pv 0) (pa_cons (pe_op op_sub (pv 3) pe_int) pa_nil))))))
      (pss_one (ps_ret (pe_lst (pa_cons (pv 5) (pa_cons (pe_dfn D_law_e_falls (hr.mono (by decide)) (by rfl) (pa_cons (pv 0) (pa_cons (pv 4) pa_nil))) (pa_cons (pe_cmpR (op_uEq hr.units) (pe_dfn D_law_draw (hr.mono (by decide)) (by rfl) (pa_cons (pv 0) (pa_cons pe_int pa_nil))) pe_int (nomark _)) pa_nil)))))))), ?_⟩
  try dsimp only [cxOf, Cx.nox, Cx.wish]
  show (_ : TS) _ [some _, some _, some _, some _, none, none] _
  o_readsAll
  refine c_draw (by omega) (by omega) hs fun r1 H1 r10 r11 s1 o1 => ?_
  o_readsAll
  refine c_draw (by decide) (by decide) s1 fun r2 H2 r20 r21 s2 o2 => ?_
  o_readsAll
  have o12 := o1.trans o2
  refine jnE (fun x H' => ∃ L : Int, x = .int L ∧ 2 ≤ L ∧ L ≤ wi ∧ Stk H' st ∧ Off st H H') ?_ (fun Q' hQ => br (fun h => ?_) (fun h => ?_))
  · rintro x H3 ⟨L, rfl, l2, l6, s3, o3⟩
    o_readsAll
    rw [show ((lo : Int) + r1 : Int) = ((lo + r1.toNat : Nat) : Int) by omega]
    refine c_fallsL (by omega) s3 fun fl l H4 ffl s4 o4 h4 hll hF => ?_
    o_readsAll
    refine c_draw (by decide) (by decide) s4 fun r5 H5 r50 r51 s5 o5 => ?_
    have nf : st ≠ fl := s3.ne ffl
    have h5 := o5 _ _ nf.symm h4
    o_readsAll
    rename_i p H6 fp e6 h6
    have o35 := (o3.trans o4).trans o5
    exact k p L (lo + r1.toNat) (fn l) _ H6 (s5.free o35 fp) (s5.same e6) (o35.same e6) ⟨fl, h6, by unfold IL; rw [e6 _ _ h5, rng_fn, hll]⟩ (fun fl' h' => by rw [h6] at h'; cases h'; exact nf) l2 l6 (by omega) (by omega) hF.ok ⟨l, hll, rfl, hF⟩
  · o_readsAll
    exact hQ _ _ ⟨_, rfl, by omega, by omega, s2, o12⟩
  · o_readsAll
    refine c_draw (by omega) (by omega) s2 fun r3 H3 r30 r31 s3 o3 => ?_
    o_readsAll
    exact hQ _ _ ⟨_, rfl, by omega, by omega, s3, o12.trans o3⟩
theorem c_elad {st : Addr} {lo hi wi : Nat} {H : Hp} {Q : VK} {E : XK} (lo1 : 1 ≤ lo) (lh : lo ≤ hi) (h40 : hi ≤ 40) (w3 : 3 ≤ wi) (w6 : wi ≤ 6) (hs : Stk H st) (k : ∀ p L n fs ret H', H p = none → Stk H' st → Off st H H' → PlA H' p L n fs ret → (∀ fl, H' p = some (.lst [.int L, .ref fl, .bl ret]) → st ≠ fl) → 2 ≤ L → L ≤ wi → lo ≤ n → n ≤ hi → OkF fs → Q (.ref p) H') : sp_elad [.ref st, .int (lo : Int), .int (hi : Int), .int (wi : Int)] H Q E := ⟨st, lo, hi, wi, rfl, lo1, lh, h40, w3, w6, hs, fun p L n fs ret H' a b c d e f g h i j _ => k p L n fs ret H' a b c d e f g h i j⟩
theorem c_eladL {st : Addr} {lo hi wi : Nat} {H : Hp} {Q : VK} {E : XK} (lo1 : 1 ≤ lo) (lh : lo ≤ hi) (h40 : hi ≤ 40) (w3 : 3 ≤ wi) (w6 : wi ≤ 6) (hs : Stk H st) (k : ∀ p L (l : List Int) ret H', H p = none → Stk H' st → Off st H H' → PlA H' p L l.length (fn l) ret → (∀ fl, H' p = some (.lst [.int L, .ref fl, .bl ret]) → st ≠ fl) → 2 ≤ L → L ≤ wi → lo ≤ l.length → l.length ≤ hi → FalL l → Q (.ref p) H') : sp_elad [.ref st, .int (lo : Int), .int (hi : Int), .int (wi : Int)] H Q E := ⟨st, lo, hi, wi, rfl, lo1, lh, h40, w3, w6, hs, fun p L n fs ret H' a b c d e f g h i _ z => by
  obtain ⟨l, rfl, rfl, hF⟩ := z
  exact k p L l ret H' a b c d e f g h i hF⟩
def sp_low (K : PySem.W.Frag) : Sp := fun vs H Q _ => ∃ (r : Addr) (f : Int) (m : Nat) (v : Nat → Int), vs = [.ref r, .int f] ∧ IL H r m v ∧ f < m ∧ Q (.int (lowV v f)) H
theorem c_low {r : Addr} {f : Int} {m : Nat} {v : Nat → Int} {H : Hp} {Q : VK} {E : XK} (hr : IL H r m v) (hf : f < m) (k : Q (.int (lowV v f)) H) : sp_low K [.ref r, .int f] H Q E := ⟨r, f, m, v, rfl, hr, hf, k⟩
def sp_eheads : Sp := fun vs H Q _ => ∃ (p : Addr) (L : Int) (n : Nat) (fs : Nat → Int) (ret : Bool), vs = [.ref p] ∧ PlA H p L n fs ret ∧ 0 ≤ L ∧ L ≤ 6 ∧ n ≤ 40 ∧ OkF fs ∧ ∀ q H', H q = none → Same H H' → IL H' q (n + 1) (hd L fs) → Q (.ref q) H'
def sp_eloads : Sp := fun vs H Q _ => ∃ (p : Addr) (L : Int) (n : Nat) (fs : Nat → Int) (ret : Bool), vs = [.ref p] ∧ PlA H p L n fs ret ∧ 0 ≤ L ∧ L ≤ 6 ∧ n ≤ 40 ∧ OkF fs ∧ ∀ q qs H', H q = none → Same H H' → H' q = some (.lst (qs.map V.ref)) → qs.length = n → RowsAt H' qs n L fs → Q (.ref q) H'
end
end L29

namespace L29
set_option exponentiation.threshold 2000
open SX Ld
section
variable {P : Program} {w : World} {K : PySem.W.Frag} {mg : Str → Option Value} {base : Heap} {Z : Ad}
theorem d_TooMany_init (T : Txt K w mg Z) : Iex P w K mg base 1 "TooMany" Z.a_TooMany ["self", "what"] (sp_xi K Z.a_TooMany "what") := by
  obtain ⟨f, fd, F, hi, ht, hb⟩ := T.f_TooMany_init
  refine ⟨⟨f, fd, F.ok sc_TooMany_init (fun vs H Q E h => by first | (obtain ⟨rfl, _⟩ := h; rfl) | (obtain ⟨_, rfl, _⟩ := h; rfl) | (obtain ⟨_, _, rfl, _⟩ := h; rfl) | (obtain ⟨_, _, _, rfl, _⟩ := h; rfl) | (obtain ⟨_, _, _, _, rfl, _⟩ := h; rfl) | (obtain ⟨_, _, _, _, _, rfl, _⟩ := h; rfl) | (obtain ⟨_, _, _, _, _, _, rfl, _⟩ := h; rfl) | (obtain ⟨_, _, _, _, _, _, _, rfl, _⟩ := h; rfl) | (obtain ⟨_, _, _, _, _, _, _, _, rfl, _⟩ := h; rfl) | (obtain ⟨_, _, _, _, _, _, _, _, _, rfl, _⟩ := h; rfl) | (obtain ⟨_, _, _, _, _, _, _, _, _, _, rfl, _⟩ := h; rfl) | (obtain ⟨_, _, _, _, _, _, _, _, _, _, _, rfl, _⟩ := h; rfl) | (obtain ⟨_, _, _, _, _, _, _, _, _, _, _, _, rfl, _⟩ := h; rfl) | (obtain ⟨_, _, _, _, _, _, _, _, _, _, _, _, _, rfl, _⟩ := h; rfl) | (obtain ⟨_, _, _, _, _, _, _, _, _, _, _, _, _, _, rfl, _⟩ := h; rfl) | (obtain ⟨_, _, _, _, _, _, _, _, _, _, _, _, _, _, _, rfl, _⟩ := h; rfl) | (obtain ⟨_, _, _, _, _, _, _, _, _, _, _, _, _, _, _, _, rfl, _⟩ := h; rfl)) (fun cdv A outer s H vs Q E hr h => ?_), hi, ht, T.g_TooMany, hb⟩, T.o_TooMany⟩
  have oex := T.o_TooMany
  have nex := T.n_TooMany_what
  obtain ⟨a, v, rfl, ha, k⟩ := h
  refine ⟨_, (pss_cons (ps_expr (pe_winit (by rfl) T.g_WinsError T.wg_WinsError T.wr_WinsError T.wv_WinsError (pa_cons (pv 0) (pa_cons pe_str pa_nil))))
      (pss_one (ps_ost (pv 0) (pv 1) rfl))), ?_⟩
  try dsimp only [cxOf, Cx.nox, Cx.wish]
  show (_ : TS) _ [some _, some _] _
  o_readsAll
  refine g_ve ha oex (by simp) ?_
  o_readsAll
  refine g_ost ha oex nex fun dx hd hn => ?_
  o_readsAll
  exact k dx hd hn
theorem d_BadLadder_init (T : Txt K w mg Z) : Iex P w K mg base 1 "BadLadder" Z.a_BadLadder ["self", "rung"] (sp_xi K Z.a_BadLadder "rung") := by
  obtain ⟨f, fd, F, hi, ht, hb⟩ := T.f_BadLadder_init
  refine ⟨⟨f, fd, F.ok sc_BadLadder_init (fun vs H Q E h => by first | (obtain ⟨rfl, _⟩ := h; rfl) | (obtain ⟨_, rfl, _⟩ := h; rfl) | (obtain ⟨_, _, rfl, _⟩ := h; rfl) | (obtain ⟨_, _, _, rfl, _⟩ := h; rfl) | (obtain ⟨_, _, _, _, rfl, _⟩ := h; rfl) | (obtain ⟨_, _, _, _, _, rfl, _⟩ := h; rfl) | (obtain ⟨_, _, _, _, _, _, rfl, _⟩ := h; rfl) | (obtain ⟨_, _, _, _, _, _, _, rfl, _⟩ := h; rfl) | (obtain ⟨_, _, _, _, _, _, _, _, rfl, _⟩ := h; rfl) | (obtain ⟨_, _, _, _, _, _, _, _, _, rfl, _⟩ := h; rfl) | (obtain ⟨_, _, _, _, _, _, _, _, _, _, rfl, _⟩ := h; rfl) | (obtain ⟨_, _, _, _, _, _, _, _, _, _, _, rfl, _⟩ := h; rfl) | (obtain ⟨_, _, _, _, _, _, _, _, _, _, _, _, rfl, _⟩ := h; rfl) | (obtain ⟨_, _, _, _, _, _, _, _, _, _, _, _, _, rfl, _⟩ := h; rfl) | (obtain ⟨_, _, _, _, _, _, _, _, _, _, _, _, _, _, rfl, _⟩ := h; rfl) | (obtain ⟨_, _, _, _, _, _, _, _, _, _, _, _, _, _, _, rfl, _⟩ := h; rfl) | (obtain ⟨_, _, _, _, _, _, _, _, _, _, _, _, _, _, _, _, rfl, _⟩ := h; rfl)) (fun cdv A outer s H vs Q E hr h => ?_), hi, ht, T.g_BadLadder, hb⟩, T.o_BadLadder⟩
  have oex := T.o_BadLadder
  have nex := T.n_BadLadder_rung
  obtain ⟨a, v, rfl, ha, k⟩ := h
  refine ⟨_, (pss_cons (ps_expr (pe_winit (by rfl) T.g_WinsError T.wg_WinsError T.wr_WinsError T.wv_WinsError (pa_cons (pv 0) (pa_cons pe_str pa_nil))))
      (pss_one (ps_ost (pv 0) (pv 1) rfl))), ?_⟩
  try dsimp only [cxOf, Cx.nox, Cx.wish]
  show (_ : TS) _ [some _, some _] _
  o_readsAll
  refine g_ve ha oex (by simp) ?_
  o_readsAll
  refine g_ost ha oex nex fun dx hd hn => ?_
  o_readsAll
  exact k dx hd hn
theorem d_BadTable_init (T : Txt K w mg Z) : Iex P w K mg base 1 "BadTable" Z.a_BadTable ["self", "rung"] (sp_xi K Z.a_BadTable "rung") := by
  obtain ⟨f, fd, F, hi, ht, hb⟩ := T.f_BadTable_init
  refine ⟨⟨f, fd, F.ok sc_BadTable_init (fun vs H Q E h => by first | (obtain ⟨rfl, _⟩ := h; rfl) | (obtain ⟨_, rfl, _⟩ := h; rfl) | (obtain ⟨_, _, rfl, _⟩ := h; rfl) | (obtain ⟨_, _, _, rfl, _⟩ := h; rfl) | (obtain ⟨_, _, _, _, rfl, _⟩ := h; rfl) | (obtain ⟨_, _, _, _, _, rfl, _⟩ := h; rfl) | (obtain ⟨_, _, _, _, _, _, rfl, _⟩ := h; rfl) | (obtain ⟨_, _, _, _, _, _, _, rfl, _⟩ := h; rfl) | (obtain ⟨_, _, _, _, _, _, _, _, rfl, _⟩ := h; rfl) | (obtain ⟨_, _, _, _, _, _, _, _, _, rfl, _⟩ := h; rfl) | (obtain ⟨_, _, _, _, _, _, _, _, _, _, rfl, _⟩ := h; rfl) | (obtain ⟨_, _, _, _, _, _, _, _, _, _, _, rfl, _⟩ := h; rfl) | (obtain ⟨_, _, _, _, _, _, _, _, _, _, _, _, rfl, _⟩ := h; rfl) | (obtain ⟨_, _, _, _, _, _, _, _, _, _, _, _, _, rfl, _⟩ := h; rfl) | (obtain ⟨_, _, _, _, _, _, _, _, _, _, _, _, _, _, rfl, _⟩ := h; rfl) | (obtain ⟨_, _, _, _, _, _, _, _, _, _, _, _, _, _, _, rfl, _⟩ := h; rfl) | (obtain ⟨_, _, _, _, _, _, _, _, _, _, _, _, _, _, _, _, rfl, _⟩ := h; rfl)) (fun cdv A outer s H vs Q E hr h => ?_), hi, ht, T.g_BadTable, hb⟩, T.o_BadTable⟩
  have oex := T.o_BadTable
  have nex := T.n_BadTable_rung
  obtain ⟨a, v, rfl, ha, k⟩ := h
  refine ⟨_, (pss_cons (ps_expr (pe_winit (by rfl) T.g_WinsError T.wg_WinsError T.wr_WinsError T.wv_WinsError (pa_cons (pv 0) (pa_cons pe_str pa_nil))))
      (pss_one (ps_ost (pv 0) (pv 1) rfl))), ?_⟩
  try dsimp only [cxOf, Cx.nox, Cx.wish]
  show (_ : TS) _ [some _, some _] _
  o_readsAll
  refine g_ve ha oex (by simp) ?_
  o_readsAll
  refine g_ost ha oex nex fun dx hd hn => ?_
  o_readsAll
  exact k dx hd hn
theorem d_BadDemand_init (T : Txt K w mg Z) : Iex P w K mg base 1 "BadDemand" Z.a_BadDemand ["self", "what"] (sp_xi K Z.a_BadDemand "what") := by
  obtain ⟨f, fd, F, hi, ht, hb⟩ := T.f_BadDemand_init
  refine ⟨⟨f, fd, F.ok sc_BadDemand_init (fun vs H Q E h => by first | (obtain ⟨rfl, _⟩ := h; rfl) | (obtain ⟨_, rfl, _⟩ := h; rfl) | (obtain ⟨_, _, rfl, _⟩ := h; rfl) | (obtain ⟨_, _, _, rfl, _⟩ := h; rfl) | (obtain ⟨_, _, _, _, rfl, _⟩ := h; rfl) | (obtain ⟨_, _, _, _, _, rfl, _⟩ := h; rfl) | (obtain ⟨_, _, _, _, _, _, rfl, _⟩ := h; rfl) | (obtain ⟨_, _, _, _, _, _, _, rfl, _⟩ := h; rfl) | (obtain ⟨_, _, _, _, _, _, _, _, rfl, _⟩ := h; rfl) | (obtain ⟨_, _, _, _, _, _, _, _, _, rfl, _⟩ := h; rfl) | (obtain ⟨_, _, _, _, _, _, _, _, _, _, rfl, _⟩ := h; rfl) | (obtain ⟨_, _, _, _, _, _, _, _, _, _, _, rfl, _⟩ := h; rfl) | (obtain ⟨_, _, _, _, _, _, _, _, _, _, _, _, rfl, _⟩ := h; rfl) | (obtain ⟨_, _, _, _, _, _, _, _, _, _, _, _, _, rfl, _⟩ := h; rfl) | (obtain ⟨_, _, _, _, _, _, _, _, _, _, _, _, _, _, rfl, _⟩ := h; rfl) | (obtain ⟨_, _, _, _, _, _, _, _, _, _, _, _, _, _, _, rfl, _⟩ := h; rfl) | (obtain ⟨_, _, _, _, _, _, _, _, _, _, _, _, _, _, _, _, rfl, _⟩ := h; rfl)) (fun cdv A outer s H vs Q E hr h => ?_), hi, ht, T.g_BadDemand, hb⟩, T.o_BadDemand⟩
  have oex := T.o_BadDemand
  have nex := T.n_BadDemand_what
  obtain ⟨a, v, rfl, ha, k⟩ := h
  refine ⟨_, (pss_cons (ps_expr (pe_winit (by rfl) T.g_WinsError T.wg_WinsError T.wr_WinsError T.wv_WinsError (pa_cons (pv 0) (pa_cons pe_str pa_nil))))
      (pss_one (ps_ost (pv 0) (pv 1) rfl))), ?_⟩
  try dsimp only [cxOf, Cx.nox, Cx.wish]
  show (_ : TS) _ [some _, some _] _
  o_readsAll
  refine g_ve ha oex (by simp) ?_
  o_readsAll
  refine g_ost ha oex nex fun dx hd hn => ?_
  o_readsAll
  exact k dx hd hn
/-- the errors that are met: name, class, field -/
def ErrC (Z : Ad) (nm : Str) (C : Addr) (f : Str) : Prop := (nm = "TooMany" ∧ C = Z.a_TooMany ∧ f = "what") ∨ (nm = "BadLadder" ∧ C = Z.a_BadLadder ∧ f = "rung") ∨ (nm = "BadTable" ∧ C = Z.a_BadTable ∧ f = "rung") ∨ (nm = "BadDemand" ∧ C = Z.a_BadDemand ∧ f = "what")
theorem err_TooMany : ErrC Z "TooMany" Z.a_TooMany "what" := .inl ⟨rfl, rfl, rfl⟩
theorem err_BadLadder : ErrC Z "BadLadder" Z.a_BadLadder "rung" := .inr (.inl ⟨rfl, rfl, rfl⟩)
theorem err_BadTable : ErrC Z "BadTable" Z.a_BadTable "rung" := .inr (.inr (.inl ⟨rfl, rfl, rfl⟩))
theorem err_BadDemand : ErrC Z "BadDemand" Z.a_BadDemand "what" := .inr (.inr (.inr (⟨rfl, rfl, rfl⟩)))
def sp_named (Z : Ad) : Value → Option Addr → Sp := fun cls d vs H Q _ => ∃ (a dd C : Addr) (nm f : Str) (v : V), vs = [.ref a] ∧ cls = .ref C ∧ d = some dd ∧ ErrC Z nm C f ∧ H dd = some (.xd [(f, v)]) ∧ ∀ p H', H p = none → Same H H' → H' p = some (.tup [.str nm, v]) → Q (.ref p) H'
theorem d_law_e_named (T : Txt K w mg Z) : DfnE P w K mg base 1 "_law_e_named" ["raised"] (sp_named Z) := by
  obtain ⟨f, fd, F, hm, hb⟩ := T.f_law_e_named
  refine ⟨f, fd, okE F sc_law_e_named rfl (fun cdv A outer s H Q a oe cls d hr hz hf h => ?_), hm, F.kp, hb⟩
  obtain ⟨a', dd, C, nm, f, v, e1, rfl, rfl, ec, hx, k⟩ := h
  cases e1
  rcases ec with ⟨rfl, rfl, rfl⟩ | ⟨rfl, rfl, rfl⟩ | ⟨rfl, rfl, rfl⟩ | ⟨rfl, rfl, rfl⟩
  · skip
    have xi := T.xi_TooMany
    have xf := T.x_TooMany
    refine ⟨_, (pss_cons (ps_set (i := 1) sc_law_e_named.nd rfl (.inl rfl) (pe_lst pa_nil))
      (pss_cons (ps_if (pt_uK (K := K) rfl (pe_callB (call_isX hz hf) (by rfl) T.b_isinstance bt_isinstance (pa_cons (pv 0) (pa_cons (pe_gr T.g_TooMany) pa_nil)))) (pss_one (ps_expr (pe_bmX (K := K) rfl PySem.F.plainAttrs_list PySem.F.slot_list_append PySem.F.type_list_append mt_append (pv 1) (pa_cons (pe_tup (pa_cons pe_str (pa_cons (pe_xfA hz hf (pv 0)) pa_nil))) pa_nil)))) pss_nil)
      (pss_cons (ps_if (pt_uK (K := K) rfl (pe_callB (call_isX hz hf) (by rfl) T.b_isinstance bt_isinstance (pa_cons (pv 0) (pa_cons (pe_gr T.g_BadLadder) pa_nil)))) (pss_one (ps_expr (pe_bmX (K := K) rfl PySem.F.plainAttrs_list PySem.F.slot_list_append PySem.F.type_list_append mt_append (pv 1) (pa_cons (pe_tup (pa_cons pe_str (pa_cons (pe_xfA hz hf (pv 0)) pa_nil))) pa_nil)))) pss_nil)
      (pss_cons (ps_if (pt_uK (K := K) rfl (pe_callB (call_isX hz hf) (by rfl) T.b_isinstance bt_isinstance (pa_cons (pv 0) (pa_cons (pe_gr T.g_BadTable) pa_nil)))) (pss_one (ps_expr (pe_bmX (K := K) rfl PySem.F.plainAttrs_list PySem.F.slot_list_append PySem.F.type_list_append mt_append (pv 1) (pa_cons (pe_tup (pa_cons pe_str (pa_cons (pe_xfA hz hf (pv 0)) pa_nil))) pa_nil)))) pss_nil)
      (pss_cons (ps_if (pt_uK (K := K) rfl (pe_callB (call_isX hz hf) (by rfl) T.b_isinstance bt_isinstance (pa_cons (pv 0) (pa_cons (pe_gr T.g_BadDemand) pa_nil)))) (pss_one (ps_expr (pe_bmX (K := K) rfl PySem.F.plainAttrs_list PySem.F.slot_list_append PySem.F.type_list_append mt_append (pv 1) (pa_cons (pe_tup (pa_cons pe_str (pa_cons (pe_xfA hz hf (pv 0)) pa_nil))) pa_nil)))) pss_nil)
      (pss_cons (ps_if (pt_uK (K := K) rfl (pe_callB (call_isX hz hf) (by rfl) T.b_isinstance bt_isinstance (pa_cons (pv 0) (pa_cons (pe_tup (pa_cons (pe_gr T.g_BadText) (pa_cons (pe_gr T.g_BadSeason) (pa_cons (pe_gr T.g_BadCode) (pa_cons (pe_gr T.g_BadEvent) (pa_cons (pe_gr T.g_BadFoe) (pa_cons (pe_gr T.g_BadPaper) (pa_cons (pe_gr T.g_BadDisk) (pa_cons (pe_gr T.g_BadDeed) pa_nil))))))))) pa_nil)))) (pss_one ps_never) pss_nil)
      (pss_one (ps_ret (pe_ifExp (PW.pt (pw_and (pt_cmpR (op_uEqK (K := K) rfl hr.units) (pe_callB (call_uLenK (K := K) rfl) (by rfl) T.b_len bt_len (pa_cons (pv 1) pa_nil)) pe_int (nomark _)) (pw_and1 (pt_uK (K := K) rfl (pe_callB (call_isX hz hf) (by rfl) T.b_isinstance bt_isinstance (pa_cons (pv 0) (pa_cons (pe_bltn (v := .ty "ValueError") (by rfl) T.b_ValueError bt_ValueError rfl) pa_nil))))))) (pe_ix (ix_seqK (K := K) rfl) (pv 1) pe_int (fun _ _ => rfl)) (pe_tup (pa_cons pe_str pa_nil))))))))))), ?_⟩
    try dsimp only [cxOf, Cx.nox, Cx.wish]
    show (_ : TS) _ [some _, none] _
    o_readsAll
    rename_i q0 H1 fq0 e1 hq0 N1 hN1
    have hx1 := e1 _ _ hx
    refine g_isx xi hx1 (.own _) T.ki_TooMany_TooMany ?_
    o_readsAll
    refine g_xfA xf T.n_TooMany_what hx1 fld_hd ?_
    o_readsAll
    rename_i t1 H2 ft1 e2 ht1 N2 hN2
    have hq2 := e2 _ _ hq0
    have nt1 : t1 ≠ q0 := (ne_of_none hq0 ft1).symm
    have hdq : dd ≠ q0 := ne_of hx1 hq0 (by intro z; cases z)
    have hx2 : upd H2 q0 (.lst ([] ++ [V.ref t1])) dd = some (.xd [("what", v)]) := by rw [upd_ne hdq]; exact e2 _ _ hx1
    refine g_isx xi hx2 (.own _) T.ki_TooMany_BadLadder ?_
    o_readsAll
    refine g_isx xi hx2 (.own _) T.ki_TooMany_BadTable ?_
    o_readsAll
    refine g_isx xi hx2 (.own _) T.ki_TooMany_BadDemand ?_
    o_readsAll
    rename_i t2 H3 ft2 e3 ht2
    have hx3 : H3 dd = some (.xd [("what", v)]) := e3 _ _ (by rw [upd_ne hdq]; exact e2 _ _ hx1)
    have ht3 : H3 t1 = some (.tup [.str "TooMany", v]) := e3 _ _ (by rw [upd_ne nt1]; exact ht1)
    have f3 : H3 q0 = some (.lst [.ref t1]) := e3 _ _ upd_same
    have s3 : Same H H3 := (Eg.Same.put (e1.trans e2) fq0).trans e3
    have nf1 : H t1 = none := e1.free ft1
    refine g_isxT xi hx3 ht2 (.cons (.own _) (.cons (.own _) (.cons (.own _) (.cons (.own _) (.cons (.own _) (.cons (.own _) (.cons (.own _) (.cons (.own _) .nil)))))))) T.ka_TooMany_0 ?_
    clear hq0 e1 e2 hq2 ht1
    o_readsAll
    refine brT (decide_eq_true rfl) ?_
    o_readsAll
    refine g_isx xi hx3 (.ty _) T.ki_TooMany_ValueError ?_
    o_readsAll
    exact k _ _ nf1 s3 ht3
  · skip
    have xi := T.xi_BadLadder
    have xf := T.x_BadLadder
    refine ⟨_, (pss_cons (ps_set (i := 1) sc_law_e_named.nd rfl (.inl rfl) (pe_lst pa_nil))
      (pss_cons (ps_if (pt_uK (K := K) rfl (pe_callB (call_isX hz hf) (by rfl) T.b_isinstance bt_isinstance (pa_cons (pv 0) (pa_cons (pe_gr T.g_TooMany) pa_nil)))) (pss_one (ps_expr (pe_bmX (K := K) rfl PySem.F.plainAttrs_list PySem.F.slot_list_append PySem.F.type_list_append mt_append (pv 1) (pa_cons (pe_tup (pa_cons pe_str (pa_cons (pe_xfA hz hf (pv 0)) pa_nil))) pa_nil)))) pss_nil)
      (pss_cons (ps_if (pt_uK (K := K) rfl (pe_callB (call_isX hz hf) (by rfl) T.b_isinstance bt_isinstance (pa_cons (pv 0) (pa_cons (pe_gr T.g_BadLadder) pa_nil)))) (pss_one (ps_expr (pe_bmX (K := K) rfl PySem.F.plainAttrs_list PySem.F.slot_list_append PySem.F.type_list_append mt_append (pv 1) (pa_cons (pe_tup (pa_cons pe_str (pa_cons (pe_xfA hz hf (pv 0)) pa_nil))) pa_nil)))) pss_nil)
      (pss_cons (ps_if (pt_uK (K := K) rfl (pe_callB (call_isX hz hf) (by rfl) T.b_isinstance bt_isinstance (pa_cons (pv 0) (pa_cons (pe_gr T.g_BadTable) pa_nil)))) (pss_one (ps_expr (pe_bmX (K := K) rfl PySem.F.plainAttrs_list PySem.F.slot_list_append PySem.F.type_list_append mt_append (pv 1) (pa_cons (pe_tup (pa_cons pe_str (pa_cons (pe_xfA hz hf (pv 0)) pa_nil))) pa_nil)))) pss_nil)
      (pss_cons (ps_if (pt_uK (K := K) rfl (pe_callB (call_isX hz hf) (by rfl) T.b_isinstance bt_isinstance (pa_cons (pv 0) (pa_cons (pe_gr T.g_BadDemand) pa_nil)))) (pss_one (ps_expr (pe_bmX (K := K) rfl PySem.F.plainAttrs_list PySem.F.slot_list_append PySem.F.type_list_append mt_append (pv 1) (pa_cons (pe_tup (pa_cons pe_str (pa_cons (pe_xfA hz hf (pv 0)) pa_nil))) pa_nil)))) pss_nil)
      (pss_cons (ps_if (pt_uK (K := K) rfl (pe_callB (call_isX hz hf) (by rfl) T.b_isinstance bt_isinstance (pa_cons (pv 0) (pa_cons (pe_tup (pa_cons (pe_gr T.g_BadText) (pa_cons (pe_gr T.g_BadSeason) (pa_cons (pe_gr T.g_BadCode) (pa_cons (pe_gr T.g_BadEvent) (pa_cons (pe_gr T.g_BadFoe) (pa_cons (pe_gr T.g_BadPaper) (pa_cons (pe_gr T.g_BadDisk) (pa_cons (pe_gr T.g_BadDeed) pa_nil))))))))) pa_nil)))) (pss_one ps_never) pss_nil)
      (pss_one (ps_ret (pe_ifExp (PW.pt (pw_and (pt_cmpR (op_uEqK (K := K) rfl hr.units) (pe_callB (call_uLenK (K := K) rfl) (by rfl) T.b_len bt_len (pa_cons (pv 1) pa_nil)) pe_int (nomark _)) (pw_and1 (pt_uK (K := K) rfl (pe_callB (call_isX hz hf) (by rfl) T.b_isinstance bt_isinstance (pa_cons (pv 0) (pa_cons (pe_bltn (v := .ty "ValueError") (by rfl) T.b_ValueError bt_ValueError rfl) pa_nil))))))) (pe_ix (ix_seqK (K := K) rfl) (pv 1) pe_int (fun _ _ => rfl)) (pe_tup (pa_cons pe_str pa_nil))))))))))), ?_⟩
    try dsimp only [cxOf, Cx.nox, Cx.wish]
    show (_ : TS) _ [some _, none] _
    o_readsAll
    rename_i q0 H1 fq0 e1 hq0 N1 hN1
    have hx1 := e1 _ _ hx
    refine g_isx xi hx1 (.own _) T.ki_BadLadder_TooMany ?_
    o_readsAll
    refine g_isx xi hx1 (.own _) T.ki_BadLadder_BadLadder ?_
    o_readsAll
    refine g_xfA xf T.n_BadLadder_rung hx1 fld_hd ?_
    o_readsAll
    rename_i t1 H2 ft1 e2 ht1 N2 hN2
    have hq2 := e2 _ _ hq0
    have nt1 : t1 ≠ q0 := (ne_of_none hq0 ft1).symm
    have hdq : dd ≠ q0 := ne_of hx1 hq0 (by intro z; cases z)
    have hx2 : upd H2 q0 (.lst ([] ++ [V.ref t1])) dd = some (.xd [("rung", v)]) := by rw [upd_ne hdq]; exact e2 _ _ hx1
    refine g_isx xi hx2 (.own _) T.ki_BadLadder_BadTable ?_
    o_readsAll
    refine g_isx xi hx2 (.own _) T.ki_BadLadder_BadDemand ?_
    o_readsAll
    rename_i t2 H3 ft2 e3 ht2
    have hx3 : H3 dd = some (.xd [("rung", v)]) := e3 _ _ (by rw [upd_ne hdq]; exact e2 _ _ hx1)
    have ht3 : H3 t1 = some (.tup [.str "BadLadder", v]) := e3 _ _ (by rw [upd_ne nt1]; exact ht1)
    have f3 : H3 q0 = some (.lst [.ref t1]) := e3 _ _ upd_same
    have s3 : Same H H3 := (Eg.Same.put (e1.trans e2) fq0).trans e3
    have nf1 : H t1 = none := e1.free ft1
    refine g_isxT xi hx3 ht2 (.cons (.own _) (.cons (.own _) (.cons (.own _) (.cons (.own _) (.cons (.own _) (.cons (.own _) (.cons (.own _) (.cons (.own _) .nil)))))))) T.ka_BadLadder_0 ?_
    clear hq0 e1 e2 hq2 ht1
    o_readsAll
    refine brT (decide_eq_true rfl) ?_
    o_readsAll
    refine g_isx xi hx3 (.ty _) T.ki_BadLadder_ValueError ?_
    o_readsAll
    exact k _ _ nf1 s3 ht3
  · skip
    have xi := T.xi_BadTable
    have xf := T.x_BadTable
    refine ⟨_, (pss_cons (ps_set (i := 1) sc_law_e_named.nd rfl (.inl rfl) (pe_lst pa_nil))
      (pss_cons (ps_if (pt_uK (K := K) rfl (pe_callB (call_isX hz hf) (by rfl) T.b_isinstance bt_isinstance (pa_cons (pv 0) (pa_cons (pe_gr T.g_TooMany) pa_nil)))) (pss_one (ps_expr (pe_bmX (K := K) rfl PySem.F.plainAttrs_list PySem.F.slot_list_append PySem.F.type_list_append mt_append (pv 1) (pa_cons (pe_tup (pa_cons pe_str (pa_cons (pe_xfA hz hf (pv 0)) pa_nil))) pa_nil)))) pss_nil)
      (pss_cons (ps_if (pt_uK (K := K) rfl (pe_callB (call_isX hz hf) (by rfl) T.b_isinstance bt_isinstance (pa_cons (pv 0) (pa_cons (pe_gr T.g_BadLadder) pa_nil)))) (pss_one (ps_expr (pe_bmX (K := K) rfl PySem.F.plainAttrs_list PySem.F.slot_list_append PySem.F.type_list_append mt_append (pv 1) (pa_cons (pe_tup (pa_cons pe_str (pa_cons (pe_xfA hz hf (pv 0)) pa_nil))) pa_nil)))) pss_nil)
      (pss_cons (ps_if (pt_uK (K := K) rfl (pe_callB (call_isX hz hf) (by rfl) T.b_isinstance bt_isinstance (pa_cons (pv 0) (pa_cons (pe_gr T.g_BadTable) pa_nil)))) (pss_one (ps_expr (pe_bmX (K := K) rfl PySem.F.plainAttrs_list PySem.F.slot_list_append PySem.F.type_list_append mt_append (pv 1) (pa_cons (pe_tup (pa_cons pe_str (pa_cons (pe_xfA hz hf (pv 0)) pa_nil))) pa_nil)))) pss_nil)
      (pss_cons (ps_if (pt_uK (K := K) rfl (pe_callB (call_isX hz hf) (by rfl) T.b_isinstance bt_isinstance (pa_cons (pv 0) (pa_cons (pe_gr T.g_BadDemand) pa_nil)))) (pss_one (ps_expr (pe_bmX (K := K) rfl PySem.F.plainAttrs_list PySem.F.slot_list_append PySem.F.type_list_append mt_append (pv 1) (pa_cons (pe_tup (pa_cons pe_str (pa_cons (pe_xfA hz hf (pv 0)) pa_nil))) pa_nil)))) pss_nil)
      (pss_cons (ps_if (pt_uK (K := K) rfl (pe_callB (call_isX hz hf) (by rfl) T.b_isinstance bt_isinstance (pa_cons (pv 0) (pa_cons (pe_tup (pa_cons (pe_gr T.g_BadText) (pa_cons (pe_gr T.g_BadSeason) (pa_cons (pe_gr T.g_BadCode) (pa_cons (pe_gr T.g_BadEvent) (pa_cons (pe_gr T.g_BadFoe) (pa_cons (pe_gr T.g_BadPaper) (pa_cons (pe_gr T.g_BadDisk) (pa_cons (pe_gr T.g_BadDeed) pa_nil))))))))) pa_nil)))) (pss_one ps_never) pss_nil)
      (pss_one (ps_ret (pe_ifExp (PW.pt (pw_and (pt_cmpR (op_uEqK (K := K) rfl hr.units) (pe_callB (call_uLenK (K := K) rfl) (by rfl) T.b_len bt_len (pa_cons (pv 1) pa_nil)) pe_int (nomark _)) (pw_and1 (pt_uK (K := K) rfl (pe_callB (call_isX hz hf) (by rfl) T.b_isinstance bt_isinstance (pa_cons (pv 0) (pa_cons (pe_bltn (v := .ty "ValueError") (by rfl) T.b_ValueError bt_ValueError rfl) pa_nil))))))) (pe_ix (ix_seqK (K := K) rfl) (pv 1) pe_int (fun _ _ => rfl)) (pe_tup (pa_cons pe_str pa_nil))))))))))), ?_⟩
    try dsimp only [cxOf, Cx.nox, Cx.wish]
    show (_ : TS) _ [some _, none] _
    o_readsAll
    rename_i q0 H1 fq0 e1 hq0 N1 hN1
    have hx1 := e1 _ _ hx
    refine g_isx xi hx1 (.own _) T.ki_BadTable_TooMany ?_
    o_readsAll
    refine g_isx xi hx1 (.own _) T.ki_BadTable_BadLadder ?_
    o_readsAll
    refine g_isx xi hx1 (.own _) T.ki_BadTable_BadTable ?_
    o_readsAll
    refine g_xfA xf T.n_BadTable_rung hx1 fld_hd ?_
    o_readsAll
    rename_i t1 H2 ft1 e2 ht1 N2 hN2
    have hq2 := e2 _ _ hq0
    have nt1 : t1 ≠ q0 := (ne_of_none hq0 ft1).symm
    have hdq : dd ≠ q0 := ne_of hx1 hq0 (by intro z; cases z)
    have hx2 : upd H2 q0 (.lst ([] ++ [V.ref t1])) dd = some (.xd [("rung", v)]) := by rw [upd_ne hdq]; exact e2 _ _ hx1
    refine g_isx xi hx2 (.own _) T.ki_BadTable_BadDemand ?_
    o_readsAll
    rename_i t2 H3 ft2 e3 ht2
    have hx3 : H3 dd = some (.xd [("rung", v)]) := e3 _ _ (by rw [upd_ne hdq]; exact e2 _ _ hx1)
    have ht3 : H3 t1 = some (.tup [.str "BadTable", v]) := e3 _ _ (by rw [upd_ne nt1]; exact ht1)
    have f3 : H3 q0 = some (.lst [.ref t1]) := e3 _ _ upd_same
    have s3 : Same H H3 := (Eg.Same.put (e1.trans e2) fq0).trans e3
    have nf1 : H t1 = none := e1.free ft1
    refine g_isxT xi hx3 ht2 (.cons (.own _) (.cons (.own _) (.cons (.own _) (.cons (.own _) (.cons (.own _) (.cons (.own _) (.cons (.own _) (.cons (.own _) .nil)))))))) T.ka_BadTable_0 ?_
    clear hq0 e1 e2 hq2 ht1
    o_readsAll
    refine brT (decide_eq_true rfl) ?_
    o_readsAll
    refine g_isx xi hx3 (.ty _) T.ki_BadTable_ValueError ?_
    o_readsAll
    exact k _ _ nf1 s3 ht3
  · skip
    have xi := T.xi_BadDemand
    have xf := T.x_BadDemand
    refine ⟨_, (pss_cons (ps_set (i := 1) sc_law_e_named.nd rfl (.inl rfl) (pe_lst pa_nil))
      (pss_cons (ps_if (pt_uK (K := K) rfl (pe_callB (call_isX hz hf) (by rfl) T.b_isinstance bt_isinstance (pa_cons (pv 0) (pa_cons (pe_gr T.g_TooMany) pa_nil)))) (pss_one (ps_expr (pe_bmX (K := K) rfl PySem.F.plainAttrs_list PySem.F.slot_list_append PySem.F.type_list_append mt_append (pv 1) (pa_cons (pe_tup (pa_cons pe_str (pa_cons (pe_xfA hz hf (pv 0)) pa_nil))) pa_nil)))) pss_nil)
      (pss_cons (ps_if (pt_uK (K := K) rfl (pe_callB (call_isX hz hf) (by rfl) T.b_isinstance bt_isinstance (pa_cons (pv 0) (pa_cons (pe_gr T.g_BadLadder) pa_nil)))) (pss_one (ps_expr (pe_bmX (K := K) rfl PySem.F.plainAttrs_list PySem.F.slot_list_append PySem.F.type_list_append mt_append (pv 1) (pa_cons (pe_tup (pa_cons pe_str (pa_cons (pe_xfA hz hf (pv 0)) pa_nil))) pa_nil)))) pss_nil)
      (pss_cons (ps_if (pt_uK (K := K) rfl (pe_callB (call_isX hz hf) (by rfl) T.b_isinstance bt_isinstance (pa_cons (pv 0) (pa_cons (pe_gr T.g_BadTable) pa_nil)))) (pss_one (ps_expr (pe_bmX (K := K) rfl PySem.F.plainAttrs_list PySem.F.slot_list_append PySem.F.type_list_append mt_append (pv 1) (pa_cons (pe_tup (pa_cons pe_str (pa_cons (pe_xfA hz hf (pv 0)) pa_nil))) pa_nil)))) pss_nil)
      (pss_cons (ps_if (pt_uK (K := K) rfl (pe_callB (call_isX hz hf) (by rfl) T.b_isinstance bt_isinstance (pa_cons (pv 0) (pa_cons (pe_gr T.g_BadDemand) pa_nil)))) (pss_one (ps_expr (pe_bmX (K := K) rfl PySem.F.plainAttrs_list PySem.F.slot_list_append PySem.F.type_list_append mt_append (pv 1) (pa_cons (pe_tup (pa_cons pe_str (pa_cons (pe_xfA hz hf (pv 0)) pa_nil))) pa_nil)))) pss_nil)
      (pss_cons (ps_if (pt_uK (K := K) rfl (pe_callB (call_isX hz hf) (by rfl) T.b_isinstance bt_isinstance (pa_cons (pv 0) (pa_cons (pe_tup (pa_cons (pe_gr T.g_BadText) (pa_cons (pe_gr T.g_BadSeason) (pa_cons (pe_gr T.g_BadCode) (pa_cons (pe_gr T.g_BadEvent) (pa_cons (pe_gr T.g_BadFoe) (pa_cons (pe_gr T.g_BadPaper) (pa_cons (pe_gr T.g_BadDisk) (pa_cons (pe_gr T.g_BadDeed) pa_nil))))))))) pa_nil)))) (pss_one ps_never) pss_nil)
      (pss_one (ps_ret (pe_ifExp (PW.pt (pw_and (pt_cmpR (op_uEqK (K := K) rfl hr.units) (pe_callB (call_uLenK (K := K) rfl) (by rfl) T.b_len bt_len (pa_cons (pv 1) pa_nil)) pe_int (nomark _)) (pw_and1 (pt_uK (K := K) rfl (pe_callB (call_isX hz hf) (by rfl) T.b_isinstance bt_isinstance (pa_cons (pv 0) (pa_cons (pe_bltn (v := .ty "ValueError") (by rfl) T.b_ValueError bt_ValueError rfl) pa_nil))))))) (pe_ix (ix_seqK (K := K) rfl) (pv 1) pe_int (fun _ _ => rfl)) (pe_tup (pa_cons pe_str pa_nil))))))))))), ?_⟩
    try dsimp only [cxOf, Cx.nox, Cx.wish]
    show (_ : TS) _ [some _, none] _
    o_readsAll
    rename_i q0 H1 fq0 e1 hq0 N1 hN1
    have hx1 := e1 _ _ hx
    refine g_isx xi hx1 (.own _) T.ki_BadDemand_TooMany ?_
    o_readsAll
    refine g_isx xi hx1 (.own _) T.ki_BadDemand_BadLadder ?_
    o_readsAll
    refine g_isx xi hx1 (.own _) T.ki_BadDemand_BadTable ?_
    o_readsAll
    refine g_isx xi hx1 (.own _) T.ki_BadDemand_BadDemand ?_
    o_readsAll
    refine g_xfA xf T.n_BadDemand_what hx1 fld_hd ?_
    o_readsAll
    rename_i t1 H2 ft1 e2 ht1 N2 hN2 t2 H3 ft2 e3 ht2
    have hq2 := e2 _ _ hq0
    have nt1 : t1 ≠ q0 := (ne_of_none hq0 ft1).symm
    have hdq : dd ≠ q0 := ne_of hx1 hq0 (by intro z; cases z)
    have hx3 : H3 dd = some (.xd [("what", v)]) := e3 _ _ (by rw [upd_ne hdq]; exact e2 _ _ hx1)
    have ht3 : H3 t1 = some (.tup [.str "BadDemand", v]) := e3 _ _ (by rw [upd_ne nt1]; exact ht1)
    have f3 : H3 q0 = some (.lst [.ref t1]) := e3 _ _ upd_same
    have s3 : Same H H3 := (Eg.Same.put (e1.trans e2) fq0).trans e3
    have nf1 : H t1 = none := e1.free ft1
    refine g_isxT xi hx3 ht2 (.cons (.own _) (.cons (.own _) (.cons (.own _) (.cons (.own _) (.cons (.own _) (.cons (.own _) (.cons (.own _) (.cons (.own _) .nil)))))))) T.ka_BadDemand_0 ?_
    clear hq0 e1 e2 hq2 ht1
    o_readsAll
    refine brT (decide_eq_true rfl) ?_
    o_readsAll
    refine g_isx xi hx3 (.ty _) T.ki_BadDemand_ValueError ?_
    o_readsAll
    exact k _ _ nf1 s3 ht3
/-- the answer of a call, or its refusal -/
def sp_asked (Z : Ad) : (XK → Hp → VK → Prop) → Sp := fun tl vs H Q _ => vs = [] ∧ ∃ (Re : Str → V → Hp → Prop) (Ro : V → Hp → Prop), (∀ E1 Q1, (∀ nm C f d v H1, ErrC Z nm C f → H1 d = some (.xd [(f, v)]) → Re nm v H1 → E1 (.ref C) (some d) H1) → (∀ v H1, Ro v H1 → Q1 v H1) → tl E1 H Q1) ∧
  (∀ nm v H1, Re nm v H1 → ∀ p H2, H1 p = none → Same H1 H2 → H2 p = some (.tup [.str nm, v]) → Q (.ref p) H2) ∧ (∀ v H1, Ro v H1 → ∀ p H2, H1 p = none → Same H1 H2 → H2 p = some (.tup [.str "told", v]) → Q (.ref p) H2)
theorem c_named {cls : Value} {a dd C : Addr} {nm f : Str} {v : V} {H : Hp} {Q : VK} {E : XK} (e : cls = .ref C) (ec : ErrC Z nm C f) (h : H dd = some (.xd [(f, v)])) (k : ∀ p H', H p = none → Same H H' → H' p = some (.tup [.str nm, v]) → Q (.ref p) H') : sp_named Z cls (some dd) [.ref a] H Q E := ⟨a, dd, C, nm, f, v, rfl, e, rfl, ec, h, k⟩
theorem exm_wins (T : Txt K w mg Z) {nm f : Str} {C : Addr} (e : ErrC Z nm C f) : PySem.W.exmOne K (.ref C) (.ref Z.a_WinsError) = some true := by
  rcases e with ⟨-, rfl, -⟩ | ⟨-, rfl, -⟩ | ⟨-, rfl, -⟩ | ⟨-, rfl, -⟩
  · exact T.mm_TooMany_WinsError
  · exact T.mm_BadLadder_WinsError
  · exact T.mm_BadTable_WinsError
  · exact T.mm_BadDemand_WinsError
theorem d_law_e_asked (T : Txt K w mg Z) : DfnL P w K mg base 10 9 "_law_e_asked" ["call"] (sp_asked Z) := by
  obtain ⟨f, fd, F, hm, hb⟩ := T.f_law_e_asked
  refine ⟨f, fd, okL F sc_law_e_asked (fun tl vs H Q E h => by first | (obtain ⟨rfl, _⟩ := h; rfl) | (obtain ⟨_, rfl, _⟩ := h; rfl) | (obtain ⟨_, _, rfl, _⟩ := h; rfl) | (obtain ⟨_, _, _, rfl, _⟩ := h; rfl) | (obtain ⟨_, _, _, _, rfl, _⟩ := h; rfl) | (obtain ⟨_, _, _, _, _, rfl, _⟩ := h; rfl) | (obtain ⟨_, _, _, _, _, _, rfl, _⟩ := h; rfl) | (obtain ⟨_, _, _, _, _, _, _, rfl, _⟩ := h; rfl) | (obtain ⟨_, _, _, _, _, _, _, _, rfl, _⟩ := h; rfl) | (obtain ⟨_, _, _, _, _, _, _, _, _, rfl, _⟩ := h; rfl) | (obtain ⟨_, _, _, _, _, _, _, _, _, _, rfl, _⟩ := h; rfl) | (obtain ⟨_, _, _, _, _, _, _, _, _, _, _, rfl, _⟩ := h; rfl) | (obtain ⟨_, _, _, _, _, _, _, _, _, _, _, _, rfl, _⟩ := h; rfl) | (obtain ⟨_, _, _, _, _, _, _, _, _, _, _, _, _, rfl, _⟩ := h; rfl) | (obtain ⟨_, _, _, _, _, _, _, _, _, _, _, _, _, _, rfl, _⟩ := h; rfl) | (obtain ⟨_, _, _, _, _, _, _, _, _, _, _, _, _, _, _, rfl, _⟩ := h; rfl) | (obtain ⟨_, _, _, _, _, _, _, _, _, _, _, _, _, _, _, _, rfl, _⟩ := h; rfl)) (fun cdv A outer s H vs Q f tl hr hL h => ?_), hm, F.kp, hb⟩
  obtain ⟨rfl, Re, Ro, k1, k2, k3⟩ := h
  have Q_law_e_named := d_law_e_named (P := P) (base := base) T
  refine ⟨_, (pss_cons (ps_try_as (i := 2) (Wout := fun _ _ _ _ => False) rfl rfl sc_law_e_asked.nd rfl rfl ⟨rfl, by decide, Or.inl T.g_WinsError⟩ takes0 (fun W pn xe tk _ => (pss_one (ps_set (i := 1) sc_law_e_asked.nd rfl (.inl rfl) (pe_lamc (i := 0) hL rfl (hr.mono (by decide)) tk)))) (fun a oe cls d pn hz hf => (pss_one (ps_ret (pe_dfnE (i := 2) Q_law_e_named (L2H.roomH_mark (hr.mono (by decide)) _) hz hf (by rfl))))))
      (pss_one (ps_ret (pe_tup (pa_cons pe_str (pa_cons (pv 1) pa_nil)))))), ?_⟩
  try dsimp only [cxOf, Cx.nox, Cx.wish]
  show (_ : TS) _ [some _, none, none] _
  o_readsAll
  refine k1 _ _ (fun nm C f' d v H1 ec hd re => ?_) (fun v H1 ro => ?_)
  · refine g_wAs (exm_wins T ec) fun a ha => ?_
    o_readsAll
    refine c_named rfl ec hd fun p H2 fp e2 hp => ?_
    exact k2 nm v H1 re p H2 fp e2 hp
  · o_readsAll
    exact k3 v H1 ro _ _ (by assumption) (by assumption) (by assumption)
/-- a call that is refused by just this error -/
def sp_refused (Z : Ad) : (XK → Hp → VK → Prop) → Sp := fun tl vs H Q _ => ∃ (due C : Addr) (nm f : Str) (v : V), vs = [.ref due] ∧ ErrC Z nm C f ∧ Flat v ∧ H due = some (.tup [.str nm, v]) ∧ (∀ E1 Q1, (∀ d H1, Same H H1 → H1 d = some (.xd [(f, v)]) → E1 (.ref C) (some d) H1) → tl E1 H Q1) ∧ ∀ H', Same H H' → Q (.bl true) H'
theorem c_asked {tl : XK → Hp → VK → Prop} {H : Hp} {Q : VK} {E : XK} (Re : Str → V → Hp → Prop) (Ro : V → Hp → Prop) (k1 : ∀ E1 Q1, (∀ nm C f d v H1, ErrC Z nm C f → H1 d = some (.xd [(f, v)]) → Re nm v H1 → E1 (.ref C) (some d) H1) → (∀ v H1, Ro v H1 → Q1 v H1) → tl E1 H Q1)
    (k2 : ∀ nm v H1, Re nm v H1 → ∀ p H2, H1 p = none → Same H1 H2 → H2 p = some (.tup [.str nm, v]) → Q (.ref p) H2) (k3 : ∀ v H1, Ro v H1 → ∀ p H2, H1 p = none → Same H1 H2 → H2 p = some (.tup [.str "told", v]) → Q (.ref p) H2) : sp_asked Z tl [] H Q E := ⟨rfl, Re, Ro, k1, k2, k3⟩
theorem nm_told {nm f : Str} {C : Addr} (e : ErrC Z nm C f) : nm ≠ ("told" : Str) := by
  rcases e with ⟨rfl, -, -⟩ | ⟨rfl, -, -⟩ | ⟨rfl, -, -⟩ | ⟨rfl, -, -⟩ <;> decide +kernel
theorem d_law_e_refused (T : Txt K w mg Z) : DfnL P w K mg base 11 9 "_law_e_refused" ["call", "due"] (sp_refused Z) := by
  obtain ⟨f, fd, F, hm, hb⟩ := T.f_law_e_refused
  refine ⟨f, fd, okL F sc_law_e_refused (fun tl vs H Q E h => by first | (obtain ⟨rfl, _⟩ := h; rfl) | (obtain ⟨_, rfl, _⟩ := h; rfl) | (obtain ⟨_, _, rfl, _⟩ := h; rfl) | (obtain ⟨_, _, _, rfl, _⟩ := h; rfl) | (obtain ⟨_, _, _, _, rfl, _⟩ := h; rfl) | (obtain ⟨_, _, _, _, _, rfl, _⟩ := h; rfl) | (obtain ⟨_, _, _, _, _, _, rfl, _⟩ := h; rfl) | (obtain ⟨_, _, _, _, _, _, _, rfl, _⟩ := h; rfl) | (obtain ⟨_, _, _, _, _, _, _, _, rfl, _⟩ := h; rfl) | (obtain ⟨_, _, _, _, _, _, _, _, _, rfl, _⟩ := h; rfl) | (obtain ⟨_, _, _, _, _, _, _, _, _, _, rfl, _⟩ := h; rfl) | (obtain ⟨_, _, _, _, _, _, _, _, _, _, _, rfl, _⟩ := h; rfl) | (obtain ⟨_, _, _, _, _, _, _, _, _, _, _, _, rfl, _⟩ := h; rfl) | (obtain ⟨_, _, _, _, _, _, _, _, _, _, _, _, _, rfl, _⟩ := h; rfl) | (obtain ⟨_, _, _, _, _, _, _, _, _, _, _, _, _, _, rfl, _⟩ := h; rfl) | (obtain ⟨_, _, _, _, _, _, _, _, _, _, _, _, _, _, _, rfl, _⟩ := h; rfl) | (obtain ⟨_, _, _, _, _, _, _, _, _, _, _, _, _, _, _, _, rfl, _⟩ := h; rfl)) (fun cdv A outer s H vs Q f tl hr hL h => ?_), hm, F.kp, hb⟩
  obtain ⟨due, C, nm, f', v, rfl, ec, fv, hdue, k1, k2⟩ := h
  have D_law_e_asked := d_law_e_asked (P := P) (base := base) T
  have D_law_matches := d_law_matches (P := P) (base := base) T
  refine ⟨_, (pss_cons (ps_set (i := 2) sc_law_e_refused.nd rfl (.inl rfl) (pe_fwd (i := 0) D_law_e_asked hL rfl rfl rfl (hr.mono (by decide)) (by rfl) pa_nil))
      (pss_one (ps_ret (pe_and (pe_cmpR (op_uNe hr.units) (pe_ix ix_seq (pv 2) pe_int (fun _ _ => rfl)) pe_str (nomark _)) (pe_one (pe_dfn (D_law_matches 2) (hr.mono (by decide)) (by rfl) (pa_cons (pv 2) (pa_cons (pv 1) pa_nil)))))))), ?_⟩
  try dsimp only [cxOf, Cx.nox, Cx.wish]
  show (_ : TS) _ [some _, some _, none] _
  o_readsAll
  refine c_asked (fun nm' v' H1 => nm' = nm ∧ v' = v ∧ Same H H1) (fun _ _ => False) (fun E1 Q1 h1 h2 => k1 E1 Q1 fun d H1 e1 hd => h1 nm C f' d v H1 ec hd ⟨rfl, rfl, e1⟩) (fun nm' v' H1 hre p H2 fp e2 hp => ?_) fun _ _ h => h.elim
  obtain ⟨rfl, rfl, e1⟩ := hre
  o_readsAll
  refine brT (by rw [decide_eq_false (nm_told ec)]; rfl) ?_
  o_readsAll
  refine c_mat (alk_tup (m := 0) hp (e2 _ _ (e1 _ _ hdue)) (by simp) (fun u hu => ?_)) fun H3 e3 => ?_
  · simp only [List.mem_cons, List.not_mem_nil, or_false] at hu
    rcases hu with rfl | rfl
    · trivial
    · exact fv
  · exact k2 _ ((e1.trans e2).trans e3)
/-- a call that is answered -/
def sp_let : (XK → Hp → VK → Prop) → Sp := fun tl vs H Q _ => vs = [] ∧ (∀ E1 Q1, (∀ v H1, Same H H1 → Q1 v H1) → tl E1 H Q1) ∧ ∀ H', Same H H' → Q (.bl true) H'
theorem c_refused {tl : XK → Hp → VK → Prop} {due C : Addr} {nm f : Str} {v : V} {H : Hp} {Q : VK} {E : XK} (ec : ErrC Z nm C f) (fv : Flat v) (hd : H due = some (.tup [.str nm, v])) (h : ∀ E1 Q1, (∀ d H1, Same H H1 → H1 d = some (.xd [(f, v)]) → E1 (.ref C) (some d) H1) → tl E1 H Q1) (k : ∀ H', Same H H' → Q (.bl true) H') : sp_refused Z tl [.ref due] H Q E := ⟨due, C, nm, f, v, rfl, ec, fv, hd, h, k⟩
theorem c_let {tl : XK → Hp → VK → Prop} {H : Hp} {Q : VK} {E : XK} (h : ∀ E1 Q1, (∀ v H1, Same H H1 → Q1 v H1) → tl E1 H Q1) (k : ∀ H', Same H H' → Q (.bl true) H') : sp_let tl [] H Q E := ⟨rfl, h, k⟩
end
end L29

namespace L29
open SX Ld
section
variable {P : Program} {w : World} {K : PySem.W.Frag} {mg : Str → Option Value} {base : Heap} {Z : Ad}
/-- a refusal told by one field -/
abbrev RaiseI (C : Addr) (f : Str) (v : V) (H : Hp) (E : XK) : Prop := ∀ d H', H d = none → Same H H' → H' d = some (.xd [(f, v)]) → E (.ref C) (some d) H'
theorem RaiseI.same {C : Addr} {f : Str} {v : V} {H H1 : Hp} {E : XK} (h : RaiseI C f v H E) (e : Same H H1) : RaiseI C f v H1 E := fun d H' hd e1 hx => h d H' (e.free hd) (e.trans e1) hx
def sp_bound (K : PySem.W.Frag) (w : World) (Z : Ad) : Sp := fun vs H Q E => ∃ (what : Str) (n lim : Int), vs = [.str what, .int n] ∧ KDct K w Z.a_LIMITS what (.int lim) ∧ KMiss K w Z.a_TOLD what ∧ (n ≤ lim → Q .non H) ∧ (lim < n → RaiseI Z.a_TooMany "what" (.str what) H E)
theorem d_bound (T : Txt K w mg Z) : DfnX P w K mg base 3 "bound" ["what", "number"] (sp_bound K w Z) := by
  obtain ⟨f, fd, F, hm, hb⟩ := T.f_bound
  refine ⟨f, fd, F.okX sc_bound (fun vs H Q E h => by first | (obtain ⟨rfl, _⟩ := h; rfl) | (obtain ⟨_, rfl, _⟩ := h; rfl) | (obtain ⟨_, _, rfl, _⟩ := h; rfl) | (obtain ⟨_, _, _, rfl, _⟩ := h; rfl) | (obtain ⟨_, _, _, _, rfl, _⟩ := h; rfl) | (obtain ⟨_, _, _, _, _, rfl, _⟩ := h; rfl) | (obtain ⟨_, _, _, _, _, _, rfl, _⟩ := h; rfl) | (obtain ⟨_, _, _, _, _, _, _, rfl, _⟩ := h; rfl) | (obtain ⟨_, _, _, _, _, _, _, _, rfl, _⟩ := h; rfl) | (obtain ⟨_, _, _, _, _, _, _, _, _, rfl, _⟩ := h; rfl) | (obtain ⟨_, _, _, _, _, _, _, _, _, _, rfl, _⟩ := h; rfl) | (obtain ⟨_, _, _, _, _, _, _, _, _, _, _, rfl, _⟩ := h; rfl) | (obtain ⟨_, _, _, _, _, _, _, _, _, _, _, _, rfl, _⟩ := h; rfl) | (obtain ⟨_, _, _, _, _, _, _, _, _, _, _, _, _, rfl, _⟩ := h; rfl) | (obtain ⟨_, _, _, _, _, _, _, _, _, _, _, _, _, _, rfl, _⟩ := h; rfl) | (obtain ⟨_, _, _, _, _, _, _, _, _, _, _, _, _, _, _, rfl, _⟩ := h; rfl) | (obtain ⟨_, _, _, _, _, _, _, _, _, _, _, _, _, _, _, _, rfl, _⟩ := h; rfl)) (fun cdv A outer s H vs Q E hr h => ?_), hm, F.kp, hb⟩
  obtain ⟨what, n, lim, rfl, hd, hm, k1, k2⟩ := h
  have D_TooMany_init := d_TooMany_init (P := P) (base := base) T
  refine ⟨_, (pss_one (ps_if (pt_cmpR op_gt (pv 1) (pe_ix ix_kdict (pe_gr T.c_LIMITS) (pv 0) (fun _ _ => rfl)) (nomark _)) (pss_one (ps_rs (takes_of rfl rfl rfl rfl) (pmk_iex D_TooMany_init (hr.mono (by decide)) (by rfl) (pa_cons (pe_kget2 (pe_gr T.c_TOLD) (pv 0) (pv 0) ⟨rfl, rfl, rfl, rfl⟩) pa_nil)) rfl)) pss_nil)), ?_⟩
  try dsimp only [cxOf, Cx.nox, Cx.wish]
  show (_ : TS) _ [some _, some _] _
  o_readsAll
  refine g_kd hd ?_
  o_readsAll
  refine br (fun h => ?_) (fun h => ?_)
  · o_readsAll
    refine i_kget ?_
    o_readsAll
    refine ⟨_, _, rfl, hm, ?_⟩
    o_readsAll
    refine ⟨rfl, ?_⟩
    o_readsAll
    refine c_raise fun d H1 hd1 e1 h1 => ?_
    exact k2 h d H1 hd1 e1 h1
  · o_readsAll
    exact k1 (by omega)
theorem c_bound {what : Str} {n lim : Int} {H : Hp} {Q : VK} {E : XK} (hd : KDct K w Z.a_LIMITS what (.int lim)) (hm : KMiss K w Z.a_TOLD what) (k1 : n ≤ lim → Q .non H) (k2 : lim < n → RaiseI Z.a_TooMany "what" (.str what) H E) : sp_bound K w Z [.str what, .int n] H Q E := ⟨what, n, lim, rfl, hd, hm, k1, k2⟩
/-- the first place at which something holds -/
def fb (p : Nat → Prop) [DecidablePred p] : Nat → Option Nat
  | 0 => none
  | n + 1 => match fb p n with
    | some i => some i
    | none => if p n then some n else none
theorem fb_none {p : Nat → Prop} [DecidablePred p] : ∀ {n : Nat}, (∀ i, i < n → ¬ p i) → fb p n = none
  | 0, _ => rfl
  | n + 1, h => by
    show (match fb p n with | some i => some i | none => if p n then some n else none) = none
    rw [fb_none fun i hi => h i (by omega)]
    exact if_neg (h n (by omega))
theorem fb_at {p : Nat → Prop} [DecidablePred p] {i : Nat} (hp : p i) (h : ∀ j, j < i → ¬ p j) : ∀ {n : Nat}, i < n → fb p n = some i
  | 0, hi => by omega
  | n + 1, hi => by
    show (match fb p n with | some i => some i | none => if p n then some n else none) = some i
    by_cases e : i = n
    · subst e
      rw [fb_none h]
      exact if_pos hp
    · rw [fb_at hp h (n := n) (by omega)]
theorem fb_cases {p : Nat → Prop} [DecidablePred p] : ∀ (n : Nat), (fb p n = none ∧ ∀ i, i < n → ¬ p i) ∨ ∃ i, fb p n = some i ∧ i < n ∧ p i ∧ ∀ j, j < i → ¬ p j
  | 0 => .inl ⟨rfl, fun i hi => by omega⟩
  | n + 1 => by
    rcases fb_cases (p := p) n with ⟨h1, h2⟩ | ⟨i, h1, h2, h3, h4⟩
    · by_cases hn : p n
      · exact .inr ⟨n, fb_at hn h2 (by omega), by omega, hn, h2⟩
      · refine .inl ⟨fb_none fun i hi => ?_, fun i hi => ?_⟩ <;>
        · by_cases e : i = n
          · rw [e]; exact hn
          · exact h2 i (by omega)
    · exact .inr ⟨i, fb_at h3 h4 (by omega), by omega, h3, h4⟩
/-- from the end: the least one met so far -/
def lastB (p : Nat → Prop) (n m : Nat) (o : Option Nat) : Prop := match o with
  | none => ∀ j, m ≤ j → j < n → ¬ p j
  | some r => m ≤ r ∧ r < n ∧ p r ∧ ∀ j, m ≤ j → j < r → ¬ p j
theorem lastB_fb {p : Nat → Prop} [DecidablePred p] {n : Nat} {o : Option Nat} (h : lastB p n 0 o) : o = fb p n := by
  cases o with
  | none => exact (fb_none fun i hi => h i (by omega) hi).symm
  | some r => exact (fb_at h.2.2.1 (fun j hj => h.2.2.2 j (by omega) hj) h.2.1).symm
theorem lastB_yes {p : Nat → Prop} {n m : Nat} {o : Option Nat} (h : lastB p n (m + 1) o) (hm : m < n) (hp : p m) : lastB p n m (some m) := ⟨by omega, hm, hp, fun j h1 h2 => by omega⟩
theorem lastB_no {p : Nat → Prop} {n m : Nat} {o : Option Nat} (h : lastB p n (m + 1) o) (hp : ¬ p m) : lastB p n m o := by
  have q : ∀ j, (j ≠ m → ¬ p j) → ¬ p j := fun j h => by
    by_cases e : j = m
    · rw [e]; exact hp
    · exact h e
  cases o with
  | none => exact fun j h1 h2 => q j fun e => h j (by omega) h2
  | some r => exact ⟨by have := h.1; omega, h.2.1, h.2.2.1, fun j h1 h2 => q j fun e => h.2.2.2 j (by omega) h2⟩
theorem lastB_start (p : Nat → Prop) (n : Nat) : lastB p n n none := fun j h1 h2 => by omega
def DemAt (C : Addr) (H : Hp) (d : Addr) (c dr hu st : Int) : Prop := ∃ dx, H d = some (.ins C dx [("crowns_number", .int c), ("drops_number", .int dr), ("hung_number", .int hu), ("struck_number", .int st)])
theorem DemAt.same {C : Addr} {H H' : Hp} {d : Addr} {c dr hu st : Int} (h : DemAt C H d c dr hu st) (e : Same H H') : DemAt C H' d c dr hu st := by
  obtain ⟨dx, h⟩ := h
  exact ⟨dx, e _ _ h⟩
/-- the first number of a demand that is too low -/
def badD (f : Nat → Int) (i : Nat) : Prop := f i < (if i = 0 then 1 else 0)
instance (f : Nat → Int) : DecidablePred (badD f) := fun i => by unfold badD; infer_instance
def dnm (i : Nat) : Str := if i = 0 then "crowns" else if i = 1 then "drops" else if i = 2 then "hung" else "struck"
def sp_deinit (C CB : Addr) : Sp := fun vs H Q E => ∃ (x dx : Addr) (f : Nat → Int), vs = [.ref x, .int (f 0), .int (f 1), .int (f 2), .int (f 3)] ∧ H x = some (.ins C dx []) ∧ (fb (badD f) 4 = none → ∀ H', Off x H H' → DemAt C H' x (f 0) (f 1) (f 2) (f 3) → Q .non H') ∧ (∀ i, fb (badD f) 4 = some i → RaiseI CB "what" (.str (dnm i)) H E)
def sp_dcr (C : Addr) (f : Int → Int → Int → Int → Int) : Sp := fun vs H Q _ => ∃ (d : Addr) (c dr hu st : Int), vs = [.ref d] ∧ DemAt C H d c dr hu st ∧ Q (.int (f c dr hu st)) H
theorem c_dcr {C d : Addr} {c dr hu st : Int} {f : Int → Int → Int → Int → Int} {H : Hp} {Q : VK} {E : XK} (h : DemAt C H d c dr hu st) (k : Q (.int (f c dr hu st)) H) : sp_dcr C f [.ref d] H Q E := ⟨d, c, dr, hu, st, rfl, h, k⟩
/-- a demand made, or refused -/
theorem c_demakeX {C CB : Addr} {f : Nat → Int} {H : Hp} {Q : VK} {E : XK} (k1 : fb (badD f) 4 = none → ∀ d H', H d = none → Same H H' → DemAt C H' d (f 0) (f 1) (f 2) (f 3) → Q (.ref d) H') (k2 : ∀ i, fb (badD f) 4 = some i → RaiseI CB "what" (.str (dnm i)) H E) : gMake C (sp_deinit C CB) E [.int (f 0), .int (f 1), .int (f 2), .int (f 3)] H Q := by
  intro x dx hx hdx hne
  have e0 : Same H (upd (upd H dx (.own x)) x (.ins C dx [])) := fun b u q => by rw [upd_ne (ne_of_none q hx), upd_ne (ne_of_none q hdx)]; exact q
  refine ⟨x, dx, f, rfl, upd_same, fun h H' o hd => ⟨rfl, k1 h x H' hx (fun b u q => o b u (ne_of_none q hx) (e0 b u q)) hd⟩, fun i hi => (k2 i hi).same e0⟩
end
end L29

namespace L29
open SX Ld
section
variable {P : Program} {w : World} {K : PySem.W.Frag} {mg : Str → Option Value} {base : Heap} {Z : Ad}
def LadAt (C : Addr) (H : Hp) (l : Addr) (L : Int) (n : Nat) (fs : Nat → Int) (ret : Bool) : Prop := ∃ (dx fl lt hl wl : Addr) (ps : List Addr), H l = some (.ins C dx [("lanes_number", .int L), ("falls_list", .ref fl), ("returns_kept", .bl ret), ("loads_table", .ref lt), ("heads_list", .ref hl), ("worths_list", .ref wl)]) ∧ IL H fl n fs ∧ H lt = some (.lst (ps.map V.ref)) ∧ ps.length = n ∧ RowsAt H ps n L fs ∧ IL H hl (n + 1) (hd L fs) ∧ IL H wl (n + 1) (wd L fs)
theorem LadAt.same {C : Addr} {H H' : Hp} {l : Addr} {L : Int} {n : Nat} {fs : Nat → Int} {ret : Bool} (h : LadAt C H l L n fs ret) (e : Same H H') : LadAt C H' l L n fs ret := by
  obtain ⟨dx, fl, lt, hl, wl, ps, a, b, c, d, f, g, i⟩ := h
  exact ⟨dx, fl, lt, hl, wl, ps, e _ _ a, b.same e, e _ _ c, d, f.same e, g.same e, i.same e⟩
/-- a ladder whose parts are all new -/
def LadFr (C : Addr) (H0 H : Hp) (l : Addr) (L : Int) (n : Nat) (fs : Nat → Int) (ret : Bool) : Prop := ∃ (dx fl lt hl wl : Addr) (ps : List Addr), (H l = some (.ins C dx [("lanes_number", .int L), ("falls_list", .ref fl), ("returns_kept", .bl ret), ("loads_table", .ref lt), ("heads_list", .ref hl), ("worths_list", .ref wl)]) ∧ IL H fl n fs ∧ H lt = some (.lst (ps.map V.ref)) ∧ ps.length = n ∧ RowsAt H ps n L fs ∧ IL H hl (n + 1) (hd L fs) ∧ IL H wl (n + 1) (wd L fs)) ∧ H0 fl = none ∧ H0 lt = none ∧ H0 hl = none ∧ H0 wl = none ∧ ∀ q ∈ ps, H0 q = none
theorem LadFr.at {C : Addr} {H0 H : Hp} {l : Addr} {L : Int} {n : Nat} {fs : Nat → Int} {ret : Bool} (h : LadFr C H0 H l L n fs ret) : LadAt C H l L n fs ret := by
  obtain ⟨dx, fl, lt, hl, wl, ps, h1, h2⟩ := h
  exact ⟨dx, fl, lt, hl, wl, ps, h1⟩
theorem LadFr.mono {C : Addr} {H1 H0 H : Hp} {l : Addr} {L : Int} {n : Nat} {fs : Nat → Int} {ret : Bool} (h : LadFr C H0 H l L n fs ret) (e : Same H1 H0) : LadFr C H1 H l L n fs ret := by
  obtain ⟨dx, fl, lt, hl, wl, ps, a, f1, f2, f3, f4, f5⟩ := h
  exact ⟨dx, fl, lt, hl, wl, ps, a, e.free f1, e.free f2, e.free f3, e.free f4, fun q hq => e.free (f5 q hq)⟩
theorem LadFr.same {C : Addr} {H0 H H' : Hp} {l : Addr} {L : Int} {n : Nat} {fs : Nat → Int} {ret : Bool} (h : LadFr C H0 H l L n fs ret) (e : Same H H') : LadFr C H0 H' l L n fs ret := by
  obtain ⟨dx, fl, lt, hl, wl, ps, ⟨a, b, c, d, f, g, i⟩, h2⟩ := h
  exact ⟨dx, fl, lt, hl, wl, ps, ⟨e _ _ a, b.same e, e _ _ c, d, f.same e, g.same e, i.same e⟩, h2⟩
theorem LadFr.off {C s : Addr} {H0 H H' : Hp} {l : Addr} {L : Int} {n : Nat} {fs : Nat → Int} {ret : Bool} {u : HO} (h : LadFr C H0 H l L n fs ret) (hs : H0 s = some u) (nl : l ≠ s) (o : Off s H H') : LadFr C H0 H' l L n fs ret := by
  obtain ⟨dx, fl, lt, hl, wl, ps, ⟨a, b, c, d, f, g, i⟩, f1, f2, f3, f4, f5⟩ := h
  have ne : ∀ {x : Addr}, H0 x = none → x ≠ s := fun hx => (ne_of_none hs hx).symm
  exact ⟨dx, fl, lt, hl, wl, ps, ⟨o _ _ nl a, o _ _ (ne f1) b, o _ _ (ne f2) c, d, fun j q hq => o _ _ (ne (f5 q (List.mem_of_getElem? hq))) (f j q hq), o _ _ (ne f3) g, o _ _ (ne f4) i⟩, f1, f2, f3, f4, f5⟩
theorem cutV_upto (xs : List V) (m : Nat) (h : m ≤ xs.length) : cutV xs none (some (m : Int)) = xs.take m := by
  unfold cutV
  rw [HT.sIx_none, List.drop_zero, Nat.sub_zero, HT.sIx_nat, Nat.min_eq_left h]
theorem rng_upto {n m : Nat} {f : Nat → Int} (h : m ≤ n) : cutV (rng n f) none (some (m : Int)) = rng m f := by
  rw [cutV_upto _ _ (by rw [rng_len]; exact h)]
  apply List.ext_getElem?
  intro i
  by_cases hi : i < m
  · rw [List.getElem?_take_of_lt hi, rng_at hi, rng_at (by omega)]
  · rw [List.getElem?_eq_none (by rw [List.length_take]; omega), List.getElem?_eq_none (by rw [rng_len]; omega)]
theorem LadAt.ext {C : Addr} {H H' : Hp} {l : Addr} {L : Int} {n : Nat} {fs : Nat → Int} {ret : Bool} (h : LadAt C H l L n fs ret) (e : LamX.ExtN H H') : LadAt C H' l L n fs ret := by
  obtain ⟨dx, fl, lt, hl, wl, ps, a, b, c, d, f, g, i⟩ := h
  exact ⟨dx, fl, lt, hl, wl, ps, e _ _ a (fun _ z => nomatch z), e _ _ b (fun _ z => nomatch z), e _ _ c (fun _ z => nomatch z), d, fun j q hq => e _ _ (f j q hq) (fun _ z => nomatch z), e _ _ g (fun _ z => nomatch z), e _ _ i (fun _ z => nomatch z)⟩
/-- a fall that is not right -/
def badF (l : List Int) (i : Nat) : Prop := ¬ (-1 ≤ fn l i ∧ fn l i ≤ (if 0 < i then (i : Int) - 1 else 0))
instance (l : List Int) : DecidablePred (badF l) := fun i => by unfold badF; infer_instance
theorem falL_of {l : List Int} (h : ∀ i, i < l.length → ¬ badF l i) : FalL l := fun j f hj => by
  have hl := (List.getElem?_eq_some_iff.mp hj).1
  have := h j hl
  unfold badF at this
  rw [fn_at hj] at this
  have := Decidable.byContradiction this
  split at this <;> omega
theorem of_falL {l : List Int} (h : FalL l) : ∀ i, i < l.length → ¬ badF l i := fun i hi => by
  have e := List.getElem?_eq_getElem hi
  have := h i _ e
  unfold badF
  rw [fn_at e]
  split <;> omega
/-- which lanes and falls are wrong -/
def wrg (L : Int) (l : List Int) : Option Int := if L < 2 ∨ l = [] then some (-1) else (fb (badF l) l.length).map fun i => (i : Int)
def bw : Option Int → V
  | none => .non
  | some r => .int r
def sp_wrung (K : PySem.W.Frag) : Sp := fun vs H Q _ => ∃ (L : Int) (fl : Addr) (l : List Int), vs = [.int L, .ref fl] ∧ H fl = some (.lst (l.map V.int)) ∧ l.length ≤ 41 ∧ ∀ H', Same H H' → Q (bw (wrg L l)) H'
theorem d_wrong_rung (T : Txt K w mg Z) : Dfn P w K mg base 1 "wrong_rung" ["lanes", "falls"] (sp_wrung K) := by
  obtain ⟨f, fd, F, hm, hb⟩ := T.f_wrong_rung
  refine ⟨f, fd, F.ok sc_wrong_rung (fun vs H Q E h => by first | (obtain ⟨rfl, _⟩ := h; rfl) | (obtain ⟨_, rfl, _⟩ := h; rfl) | (obtain ⟨_, _, rfl, _⟩ := h; rfl) | (obtain ⟨_, _, _, rfl, _⟩ := h; rfl) | (obtain ⟨_, _, _, _, rfl, _⟩ := h; rfl) | (obtain ⟨_, _, _, _, _, rfl, _⟩ := h; rfl) | (obtain ⟨_, _, _, _, _, _, rfl, _⟩ := h; rfl) | (obtain ⟨_, _, _, _, _, _, _, rfl, _⟩ := h; rfl) | (obtain ⟨_, _, _, _, _, _, _, _, rfl, _⟩ := h; rfl) | (obtain ⟨_, _, _, _, _, _, _, _, _, rfl, _⟩ := h; rfl) | (obtain ⟨_, _, _, _, _, _, _, _, _, _, rfl, _⟩ := h; rfl) | (obtain ⟨_, _, _, _, _, _, _, _, _, _, _, rfl, _⟩ := h; rfl) | (obtain ⟨_, _, _, _, _, _, _, _, _, _, _, _, rfl, _⟩ := h; rfl) | (obtain ⟨_, _, _, _, _, _, _, _, _, _, _, _, _, rfl, _⟩ := h; rfl) | (obtain ⟨_, _, _, _, _, _, _, _, _, _, _, _, _, _, rfl, _⟩ := h; rfl) | (obtain ⟨_, _, _, _, _, _, _, _, _, _, _, _, _, _, _, rfl, _⟩ := h; rfl) | (obtain ⟨_, _, _, _, _, _, _, _, _, _, _, _, _, _, _, _, rfl, _⟩ := h; rfl)) (fun cdv A outer s H vs Q E hr h => ?_), hm, F.kp, hb⟩
  obtain ⟨L, fl, l, rfl, hf, hn, k⟩ := h
  have hfe : (l.map V.int).isEmpty = l.isEmpty := by cases l <;> rfl
  refine ⟨_, (pss_cons (ps_if (PW.pt (pw_or (pt_cmpR op_lt (pv 0) pe_int (nomark _)) (pw_or1 (pt_not (pt_u (pv 1)))))) (pss_one (ps_ret (pe_un un_neg pe_int))) pss_nil)
      (pss_cons (ps_for PassesOwn.never rfl (pi_enum (by rfl) T.b_enumerate (pa_cons (pv 1) pa_nil)) (pg_tup (by rfl) (pgs_cons (pg_name (i := 2) sc_wrong_rung.nd rfl (.inl rfl)) (pgs_cons (pg_name (i := 3) sc_wrong_rung.nd rfl (.inl rfl)) pgs_nil)))
        (pss_cons (ps_set (i := 4) sc_wrong_rung.nd rfl (.inl rfl) (pe_ifExp (pt_cmpR op_gt (pv 2) pe_int (nomark _)) (pe_op op_sub (pv 2) pe_int) pe_int))
      (pss_one (ps_if (pt_not (pt_chain op_le op_le (pe_gi T.c_OUT) (pv 3) (pv 4))) (pss_one (ps_ret (pv 2))) pss_nil))))
      (pss_one (ps_ret pe_non)))), ?_⟩
  try dsimp only [cxOf, Cx.nox, Cx.wish]
  show (_ : TS) _ [some _, some _, none, none, none] _
  o_readsAll
  refine br (fun h1 => ?_) (fun h1 => ?_)
  · o_readsAll
    rw [show wrg L l = some (-1) from if_pos (.inl h1)] at k
    exact k _ (Same.refl _)
  · o_readsAll
    refine g_truL (.of hf) ?_
    rw [hfe]
    o_readsAll
    cases hl : l with
    | nil =>
      rw [show wrg L l = some (-1) from if_pos (.inr hl)] at k
      refine brT rfl ?_
      o_readsAll
      exact k _ (Same.refl _)
    | cons a l' =>
      rw [← hl]
      have hw : wrg L l = (fb (badF l) l.length).map fun i => (i : Int) := if_neg (fun z => z.elim h1 fun z => by rw [hl] at z; cases z)
      rw [hw] at k
      refine brF (by rw [hl]; rfl) ?_
      o_readsAll
      refine f_enum (xs := l.map V.int) (fun i σ' H' => ∃ a b d, σ' = [some (.int L), some (.ref fl), a, b, d] ∧ Same H H' ∧ ∀ j, j < i → ¬ badF l j) ⟨_, _, _, rfl, Same.refl _, fun j hj => by omega⟩ ?_ ?_ ?_
      · rintro i σ' H2 hi ⟨a, b, d, rfl, e2, _⟩
        exact .of (e2 _ _ hf)
      · rintro i y σ' H2 T1 H3 hy ⟨a, b, d, rfl, e2, hp⟩ hT e3 h3
        rw [List.getElem?_map] at hy
        obtain ⟨f', hf', rfl⟩ := Option.map_eq_some_iff.mp hy
        have hi : i < l.length := (List.getElem?_eq_some_iff.mp hf').1
        have hfn := fn_at hf'
        o_readsAll
        refine jnE (fun y H' => y = .int (if 0 < i then (i : Int) - 1 else 0) ∧ H' = H3) ?_ (fun Q' hQ => br (fun h => ?_) (fun h => ?_))
        · rintro y H' ⟨rfl, rfl⟩
          have ret : badF l i → Q (.int (i : Int)) H' := fun hb => by
            rw [fb_at hb hp hi] at k
            exact k _ (e2.trans e3)
          have go : ¬ badF l i → ∃ a b d, _ := fun hb => (⟨some (.int (i : Int)), some (.int f'), some (.int (if 0 < i then (i : Int) - 1 else 0)), rfl, e2.trans e3, fun j hj => by
            by_cases e : j = i
            · rw [e]; exact hb
            · exact hp j (by omega)⟩ : ∃ a b d, [some (V.int L), some (V.ref fl), some (V.int (i : Int)), some (V.int f'), some (V.int (if 0 < i then (i : Int) - 1 else 0))] = [some (V.int L), some (V.ref fl), a, b, d] ∧ Same H H' ∧ ∀ j, j < i + 1 → ¬ badF l j)
          have hbd : badF l i = ¬ (-1 ≤ f' ∧ f' ≤ (if 0 < i then (i : Int) - 1 else 0)) := by unfold badF; rw [hfn]
          rw [hbd] at ret go
          generalize (if 0 < i then (i : Int) - 1 else 0) = m at *
          o_readsAll
          refine ⟨_, rfl, ?_⟩
          refine br (fun ha => ?_) (fun ha => ?_)
          · o_readsAll
            refine brn (fun hb => ?_) (fun hb => ?_)
            · o_readsAll
              exact ret fun z => hb z.2
            · o_readsAll
              exact go fun z => z ⟨ha, hb⟩
          · o_readsAll
            exact ret fun z => ha z.1
        · o_readsAll
          exact hQ _ _ ⟨by rw [if_pos (by omega)], rfl⟩
        · o_readsAll
          exact hQ _ _ ⟨by rw [if_neg (by omega)], rfl⟩
      · rintro σ' H2 ⟨a, b, d, rfl, e2, hp⟩
        rw [List.length_map] at hp
        rw [fb_none hp] at k
        o_readsAll
        exact k _ e2
theorem c_wrung {L : Int} {fl : Addr} {l : List Int} {H : Hp} {Q : VK} {E : XK} (hf : H fl = some (.lst (l.map V.int))) (hn : l.length ≤ 41) (k : ∀ H', Same H H' → Q (bw (wrg L l)) H') : sp_wrung K [.int L, .ref fl] H Q E := ⟨L, fl, l, rfl, hf, hn, k⟩
theorem c_row {c : Int} {v : Int → (Nat → Int) → Nat → Int} {L : Int} {fl : Addr} {n : Nat} {fs : Nat → Int} {H : Hp} {Q : VK} {E : XK} (hf : IL H fl n fs) (hn : n ≤ 40) (ok : OkF fs) (hL : 0 ≤ L) (hL6 : L ≤ 6) (k : ∀ p H', H p = none → Same H H' → IL H' p (n + 1) (v L fs) → Q (.ref p) H') : sp_row c v [.int L, .ref fl] H Q E := ⟨L, fl, n, fs, rfl, hf, hn, ok, hL, hL6, k⟩
theorem c_lrows {L : Int} {fl : Addr} {n : Nat} {fs : Nat → Int} {H : Hp} {Q : VK} {E : XK} (hf : IL H fl n fs) (hn : n ≤ 40) (ok : OkF fs) (hL : 0 ≤ L) (hL6 : L ≤ 6) (k : ∀ p ps H', H p = none → Same H H' → H' p = some (.lst (ps.map V.ref)) → ps.length = n → RowsAt H' ps n L fs → (∀ q ∈ ps, H q = none) → Q (.ref p) H') : sp_lrows [.int L, .ref fl] H Q E := ⟨L, fl, n, fs, rfl, hf, hn, ok, hL, hL6, k⟩
/-- which ladder is refused, and how -/
def flt (L : Int) (l : List Int) : Option (Str × V) := if 6 < L then some ("TooMany", .str "lanes") else if 40 < l.length then some ("TooMany", .str "rungs") else (wrg L l).map fun r => ("BadLadder", .int r)
def sp_linit (K : PySem.W.Frag) (Z : Ad) : Sp := fun vs H Q E => ∃ (x dx fl : Addr) (L : Int) (l : List Int) (ret : Bool), vs = [.ref x, .int L, .ref fl, .bl ret] ∧ H x = some (.ins Z.a_Ladder dx []) ∧ H fl = some (.lst (l.map V.int)) ∧ x ≠ fl ∧ l.length ≤ 41 ∧ (flt L l = none → ∀ H', Off x H H' → LadFr Z.a_Ladder H H' x L l.length (fn l) ret → Q .non H') ∧
  (∀ nm v, flt L l = some (nm, v) → ∀ C f, ErrC Z nm C f → RaiseI C f v H E)
theorem flt_ok {L : Int} {l : List Int} (h : flt L l = none) : 2 ≤ L ∧ L ≤ 6 ∧ 0 < l.length ∧ l.length ≤ 40 ∧ OkF (fn l) := by
  unfold flt at h
  split at h
  · cases h
  · split at h
    · cases h
    · rename_i h1 h2
      have hw : wrg L l = none := by
        cases e : wrg L l with
        | none => rfl
        | some r => rw [e] at h; cases h
      unfold wrg at hw
      split at hw
      · cases hw
      · rename_i h3
        have h4 : fb (badF l) l.length = none := by
          cases e : fb (badF l) l.length with
          | none => rfl
          | some r => rw [e] at hw; cases hw
        rcases fb_cases (p := badF l) l.length with ⟨_, hb⟩ | ⟨i, e, _⟩
        · refine ⟨by omega, by omega, ?_, by omega, (falL_of hb).ok⟩
          cases l with
          | nil => exact absurd (.inr rfl) h3
          | cons a l => simp
        · rw [h4] at e; cases e
theorem ok_flt {L : Int} {l : List Int} (l2 : 2 ≤ L) (l6 : L ≤ 6) (l0 : 0 < l.length) (l40 : l.length ≤ 40) (h : FalL l) : flt L l = none := by
  unfold flt
  rw [if_neg (by omega), if_neg (by omega)]
  unfold wrg
  rw [if_neg (by intro z; rcases z with z | z; · omega
                 · rw [z] at l0; simp at l0), fb_none (of_falL h)]
  rfl
theorem d_Ladder_init (T : Txt K w mg Z) : IniX P w K mg base 4 "Ladder" Z.a_Ladder ["self", "lanes", "falls", "returns"] (sp_linit K Z) := by
  obtain ⟨f, fd, F, hM, hm, hb⟩ := T.f_Ladder_init
  refine ⟨f, fd, F.okX sc_Ladder_init (fun vs H Q E h => by first | (obtain ⟨rfl, _⟩ := h; rfl) | (obtain ⟨_, rfl, _⟩ := h; rfl) | (obtain ⟨_, _, rfl, _⟩ := h; rfl) | (obtain ⟨_, _, _, rfl, _⟩ := h; rfl) | (obtain ⟨_, _, _, _, rfl, _⟩ := h; rfl) | (obtain ⟨_, _, _, _, _, rfl, _⟩ := h; rfl) | (obtain ⟨_, _, _, _, _, _, rfl, _⟩ := h; rfl) | (obtain ⟨_, _, _, _, _, _, _, rfl, _⟩ := h; rfl) | (obtain ⟨_, _, _, _, _, _, _, _, rfl, _⟩ := h; rfl) | (obtain ⟨_, _, _, _, _, _, _, _, _, rfl, _⟩ := h; rfl) | (obtain ⟨_, _, _, _, _, _, _, _, _, _, rfl, _⟩ := h; rfl) | (obtain ⟨_, _, _, _, _, _, _, _, _, _, _, rfl, _⟩ := h; rfl) | (obtain ⟨_, _, _, _, _, _, _, _, _, _, _, _, rfl, _⟩ := h; rfl) | (obtain ⟨_, _, _, _, _, _, _, _, _, _, _, _, _, rfl, _⟩ := h; rfl) | (obtain ⟨_, _, _, _, _, _, _, _, _, _, _, _, _, _, rfl, _⟩ := h; rfl) | (obtain ⟨_, _, _, _, _, _, _, _, _, _, _, _, _, _, _, rfl, _⟩ := h; rfl) | (obtain ⟨_, _, _, _, _, _, _, _, _, _, _, _, _, _, _, _, rfl, _⟩ := h; rfl)) (fun cdv A outer s H vs Q E hr h => ?_), hM, hm, hb⟩
  obtain ⟨x, dx, fl, L, l, ret, rfl, hx, hf, nf, hn, kk, kx⟩ := h
  have k1 := T.k_LIMITS_lanes
  have k2 := T.k_LIMITS_rungs
  have D_bound := d_bound (P := P) (base := base) T
  have D_wrong_rung := d_wrong_rung (P := P) (base := base) T
  have D_load_rows := d_load_rows (P := P) (base := base) T
  have D_head_row := d_head_row (P := P) (base := base) T
  have D_worth_row := d_worth_row (P := P) (base := base) T
  have D_BadLadder_init := d_BadLadder_init (P := P) (base := base) T
  have l_Ladder := T.l_Ladder
  have n_Ladder_lanes_number := T.n_Ladder_lanes_number
  have n_Ladder_falls_list := T.n_Ladder_falls_list
  have n_Ladder_returns_kept := T.n_Ladder_returns_kept
  have n_Ladder_loads_table := T.n_Ladder_loads_table
  have n_Ladder_heads_list := T.n_Ladder_heads_list
  have n_Ladder_worths_list := T.n_Ladder_worths_list
  refine ⟨_, (pss_cons (ps_expr (pe_dfnS D_bound (hr.mono (by decide)) (by rfl) (takes_of rfl rfl rfl rfl) (pa_cons pe_str (pa_cons (pv 1) pa_nil))))
      (pss_cons (ps_expr (pe_dfnS D_bound (hr.mono (by decide)) (by rfl) (takes_of rfl rfl rfl rfl) (pa_cons pe_str (pa_cons (pe_callB call_uLen (by rfl) T.b_len bt_len (pa_cons (pv 2) pa_nil)) pa_nil))))
      (pss_cons (ps_set (i := 4) sc_Ladder_init.nd rfl (.inl rfl) (pe_dfn D_wrong_rung (hr.mono (by decide)) (by rfl) (pa_cons (pv 1) (pa_cons (pv 2) pa_nil))))
      (pss_cons (ps_if (pt_cmpR op_uNotN (pv 4) pe_non (nomark _)) (pss_one (ps_rs (takes_of rfl rfl rfl rfl) (pmk_iex D_BadLadder_init (hr.mono (by decide)) (by rfl) (pa_cons (pv 4) pa_nil)) rfl)) pss_nil)
      (pss_cons (ps_fld (pv 0) (pv 1) rfl)
      (pss_cons (ps_fld (pv 0) (pe_callTy call_uList (by rfl) T.b_list bt_list (pa_cons (pv 2) pa_nil)) rfl)
      (pss_cons (ps_fld (pv 0) (pv 3) rfl)
      (pss_cons (ps_fld (pv 0) (pe_dfn D_load_rows (hr.mono (by decide)) (by rfl) (pa_cons (pv 1) (pa_cons (pv 2) pa_nil))) rfl)
      (pss_cons (ps_fld (pv 0) (pe_dfn D_head_row (hr.mono (by decide)) (by rfl) (pa_cons (pv 1) (pa_cons (pv 2) pa_nil))) rfl)
      (pss_one (ps_fld (pv 0) (pe_dfn D_worth_row (hr.mono (by decide)) (by rfl) (pa_cons (pv 1) (pa_cons (pv 2) pa_nil))) rfl))))))))))), ?_⟩
  try dsimp only [cxOf, Cx.nox, Cx.wish]
  show (_ : TS) _ [some _, some _, some _, some _, none] _
  o_readsAll
  refine c_bound k1 T.m_TOLD_lanes (fun hL6 => ?_) (fun hL6 => kx _ _ (if_pos hL6) _ _ err_TooMany)
  o_readsAll
  refine c_bound k2 T.m_TOLD_rungs (fun hn40 => ?_) (fun hn40 => kx _ _ (by rw [flt, if_neg (by omega), if_pos (by rw [List.length_map] at hn40; omega)]) _ _ err_TooMany)
  rw [List.length_map] at hn40
  o_readsAll
  refine c_wrung hf hn fun H3 e3 => ?_
  have hf3 := e3 _ _ hf
  have hx3 := e3 _ _ hx
  have hflt : flt L l = (wrg L l).map fun r => (("BadLadder" : Str), V.int r) := by rw [flt, if_neg (by omega), if_neg (by omega)]
  cases hw : wrg L l with
  | some r =>
    show gName _ (.int r) _ _ _
    o_readsAll
    refine c_raise fun d H1 fd e1 hd => ?_
    exact kx _ _ (by rw [hflt, hw]; rfl) _ _ err_BadLadder d H1 (e3.free fd) (e3.trans e1) hd
  | none =>
    have hfn : flt L l = none := by rw [hflt, hw]; rfl
    obtain ⟨hL, _, h0, _, ok⟩ := flt_ok hfn
    replace kk := kk hfn
    clear kx k1 k2
    rw [rng_fn] at hf3
    have n40 : l.length ≤ 40 := by omega
    generalize fn l = fs at *
    generalize l.length = n at *
    show gName _ .non _ _ _
    o_readsAll
    rename_i fl2 H4 ff e4 h4 N1 hN1 N2 hN2
    have hf4 : H4 fl = some (.lst (rng n fs)) := by o_shape
    have nf2 : x ≠ fl2 := ne_of_none upd_same ff
    refine c_lrows (by unfold IL; o_shape) n40 ok (by omega) hL6 fun lt ps H5 flt e5 h5 hpl hR hfr => ?_
    have nlt : x ≠ lt := (ne_of_none upd_same flt)
    have nps : ∀ q ∈ ps, q ≠ x := fun q hq => by
      obtain ⟨a, ha, rfl⟩ := List.mem_iff_getElem.mp hq
      exact ne_of (hR a _ (List.getElem?_eq_getElem ha)) (e5 _ _ upd_same) (by intro z; cases z)
    have hf5 : H5 fl = some (.lst (rng n fs)) := by o_shape
    have hx5 := e5 _ _ upd_same
    o_readsAll
    refine c_row (by unfold IL; o_shape) n40 ok (by omega) hL6 fun hp H6 fhp e6 h6 => ?_
    have nhp : x ≠ hp := ne_of_none upd_same fhp
    have hf6 : H6 fl = some (.lst (rng n fs)) := by o_shape
    have hx6 := e6 _ _ upd_same
    o_readsAll
    refine c_row (by unfold IL; o_shape) n40 ok (by omega) hL6 fun wp H7 fwp e7 h7 => ?_
    have nwp : x ≠ wp := ne_of_none upd_same fwp
    have hx7 := e7 _ _ upd_same
    o_readsAll
    have o3 : Off x H H3 := off_of e3
    refine kk _ ((((((((((((o3.upd).same e4).upd).upd).same e5).upd).same e6).upd).same e7).upd))) ⟨dx, fl2, lt, hp, wp, ps, ⟨upd_same, ?_, ?_, hpl, ?_, ?_, ?_⟩, ?_, ?_, ?_, ?_, ?_⟩
    · unfold IL
      o_shape
    · o_shape
    · intro a q hq
      have nq := nps q (List.mem_of_getElem? hq)
      have h := hR a q hq
      unfold IL at h ⊢
      o_shape
    · unfold IL at h6 ⊢
      o_shape
    · unfold IL at h7 ⊢
      o_shape
    · exact e3.free (upd_none ff)
    · exact e3.free (upd_none (e4.free (upd_none (upd_none flt))))
    · exact e3.free (upd_none (e4.free (upd_none (upd_none (e5.free (upd_none fhp))))))
    · exact e3.free (upd_none (e4.free (upd_none (upd_none (e5.free (upd_none (e6.free (upd_none fwp))))))))
    · exact fun q hq => e3.free (upd_none (e4.free (upd_none (upd_none (hfr q hq)))))
end
end L29

namespace L29
set_option exponentiation.threshold 2000
open SX Ld
section
variable {P : Program} {w : World} {K : PySem.W.Frag} {mg : Str → Option Value} {base : Heap} {Z : Ad}
def sp_lnum (C : Addr) (f : Int → Nat → Bool → V) : Sp := fun vs H Q _ => ∃ (l : Addr) (L : Int) (n : Nat) (fs : Nat → Int) (ret : Bool), vs = [.ref l] ∧ LadAt C H l L n fs ret ∧ Q (f L n ret) H
theorem d_Ladder_lanes (T : Txt K w mg Z) : Mth P w K mg base 1 Z.a_Ladder "lanes" ["self"] (sp_lnum Z.a_Ladder fun L _ _ => .int L) := by
  obtain ⟨f, fd, F, hm, hb⟩ := T.f_Ladder_lanes
  refine ⟨⟨f, fd, F.ok sc_Ladder_lanes (fun vs H Q E h => by first | (obtain ⟨rfl, _⟩ := h; rfl) | (obtain ⟨_, rfl, _⟩ := h; rfl) | (obtain ⟨_, _, rfl, _⟩ := h; rfl) | (obtain ⟨_, _, _, rfl, _⟩ := h; rfl) | (obtain ⟨_, _, _, _, rfl, _⟩ := h; rfl) | (obtain ⟨_, _, _, _, _, rfl, _⟩ := h; rfl) | (obtain ⟨_, _, _, _, _, _, rfl, _⟩ := h; rfl) | (obtain ⟨_, _, _, _, _, _, _, rfl, _⟩ := h; rfl) | (obtain ⟨_, _, _, _, _, _, _, _, rfl, _⟩ := h; rfl) | (obtain ⟨_, _, _, _, _, _, _, _, _, rfl, _⟩ := h; rfl) | (obtain ⟨_, _, _, _, _, _, _, _, _, _, rfl, _⟩ := h; rfl) | (obtain ⟨_, _, _, _, _, _, _, _, _, _, _, rfl, _⟩ := h; rfl) | (obtain ⟨_, _, _, _, _, _, _, _, _, _, _, _, rfl, _⟩ := h; rfl) | (obtain ⟨_, _, _, _, _, _, _, _, _, _, _, _, _, rfl, _⟩ := h; rfl) | (obtain ⟨_, _, _, _, _, _, _, _, _, _, _, _, _, _, rfl, _⟩ := h; rfl) | (obtain ⟨_, _, _, _, _, _, _, _, _, _, _, _, _, _, _, rfl, _⟩ := h; rfl) | (obtain ⟨_, _, _, _, _, _, _, _, _, _, _, _, _, _, _, _, rfl, _⟩ := h; rfl)) (fun cdv A outer s H vs Q E hr h => ?_), hm, hb⟩, T.l_Ladder⟩
  obtain ⟨l, L, n, fs, ret, rfl, ⟨dx, fl, lt, hl, wl, ps, h1, h2, h3, h4, h5, h6, h7⟩, k⟩ := h
  have l_Ladder := T.l_Ladder
  have n_Ladder_lanes_number := T.n_Ladder_lanes_number
  refine ⟨_, (pss_one (ps_ret (pe_fld (pv 0) rfl))), ?_⟩
  try dsimp only [cxOf, Cx.nox, Cx.wish]
  show (_ : TS) _ [some _] _
  o_readsAll
theorem d_Ladder_rungs (T : Txt K w mg Z) : Mth P w K mg base 1 Z.a_Ladder "rungs" ["self"] (sp_lnum Z.a_Ladder fun _ n _ => .int (n : Int)) := by
  obtain ⟨f, fd, F, hm, hb⟩ := T.f_Ladder_rungs
  refine ⟨⟨f, fd, F.ok sc_Ladder_rungs (fun vs H Q E h => by first | (obtain ⟨rfl, _⟩ := h; rfl) | (obtain ⟨_, rfl, _⟩ := h; rfl) | (obtain ⟨_, _, rfl, _⟩ := h; rfl) | (obtain ⟨_, _, _, rfl, _⟩ := h; rfl) | (obtain ⟨_, _, _, _, rfl, _⟩ := h; rfl) | (obtain ⟨_, _, _, _, _, rfl, _⟩ := h; rfl) | (obtain ⟨_, _, _, _, _, _, rfl, _⟩ := h; rfl) | (obtain ⟨_, _, _, _, _, _, _, rfl, _⟩ := h; rfl) | (obtain ⟨_, _, _, _, _, _, _, _, rfl, _⟩ := h; rfl) | (obtain ⟨_, _, _, _, _, _, _, _, _, rfl, _⟩ := h; rfl) | (obtain ⟨_, _, _, _, _, _, _, _, _, _, rfl, _⟩ := h; rfl) | (obtain ⟨_, _, _, _, _, _, _, _, _, _, _, rfl, _⟩ := h; rfl) | (obtain ⟨_, _, _, _, _, _, _, _, _, _, _, _, rfl, _⟩ := h; rfl) | (obtain ⟨_, _, _, _, _, _, _, _, _, _, _, _, _, rfl, _⟩ := h; rfl) | (obtain ⟨_, _, _, _, _, _, _, _, _, _, _, _, _, _, rfl, _⟩ := h; rfl) | (obtain ⟨_, _, _, _, _, _, _, _, _, _, _, _, _, _, _, rfl, _⟩ := h; rfl) | (obtain ⟨_, _, _, _, _, _, _, _, _, _, _, _, _, _, _, _, rfl, _⟩ := h; rfl)) (fun cdv A outer s H vs Q E hr h => ?_), hm, hb⟩, T.l_Ladder⟩
  obtain ⟨l, L, n, fs, ret, rfl, ⟨dx, fl, lt, hl, wl, ps, h1, h2, h3, h4, h5, h6, h7⟩, k⟩ := h
  unfold IL at h2
  have l_Ladder := T.l_Ladder
  have n_Ladder_falls_list := T.n_Ladder_falls_list
  refine ⟨_, (pss_one (ps_ret (pe_callB call_uLen (by rfl) T.b_len bt_len (pa_cons (pe_fld (pv 0) rfl) pa_nil)))), ?_⟩
  try dsimp only [cxOf, Cx.nox, Cx.wish]
  show (_ : TS) _ [some _] _
  o_readsAll
  rw [rng_len]
  exact k
theorem d_Ladder_returns (T : Txt K w mg Z) : Mth P w K mg base 1 Z.a_Ladder "returns" ["self"] (sp_lnum Z.a_Ladder fun _ _ ret => .bl ret) := by
  obtain ⟨f, fd, F, hm, hb⟩ := T.f_Ladder_returns
  refine ⟨⟨f, fd, F.ok sc_Ladder_returns (fun vs H Q E h => by first | (obtain ⟨rfl, _⟩ := h; rfl) | (obtain ⟨_, rfl, _⟩ := h; rfl) | (obtain ⟨_, _, rfl, _⟩ := h; rfl) | (obtain ⟨_, _, _, rfl, _⟩ := h; rfl) | (obtain ⟨_, _, _, _, rfl, _⟩ := h; rfl) | (obtain ⟨_, _, _, _, _, rfl, _⟩ := h; rfl) | (obtain ⟨_, _, _, _, _, _, rfl, _⟩ := h; rfl) | (obtain ⟨_, _, _, _, _, _, _, rfl, _⟩ := h; rfl) | (obtain ⟨_, _, _, _, _, _, _, _, rfl, _⟩ := h; rfl) | (obtain ⟨_, _, _, _, _, _, _, _, _, rfl, _⟩ := h; rfl) | (obtain ⟨_, _, _, _, _, _, _, _, _, _, rfl, _⟩ := h; rfl) | (obtain ⟨_, _, _, _, _, _, _, _, _, _, _, rfl, _⟩ := h; rfl) | (obtain ⟨_, _, _, _, _, _, _, _, _, _, _, _, rfl, _⟩ := h; rfl) | (obtain ⟨_, _, _, _, _, _, _, _, _, _, _, _, _, rfl, _⟩ := h; rfl) | (obtain ⟨_, _, _, _, _, _, _, _, _, _, _, _, _, _, rfl, _⟩ := h; rfl) | (obtain ⟨_, _, _, _, _, _, _, _, _, _, _, _, _, _, _, rfl, _⟩ := h; rfl) | (obtain ⟨_, _, _, _, _, _, _, _, _, _, _, _, _, _, _, _, rfl, _⟩ := h; rfl)) (fun cdv A outer s H vs Q E hr h => ?_), hm, hb⟩, T.l_Ladder⟩
  obtain ⟨l, L, n, fs, ret, rfl, ⟨dx, fl, lt, hl, wl, ps, h1, h2, h3, h4, h5, h6, h7⟩, k⟩ := h
  have l_Ladder := T.l_Ladder
  have n_Ladder_returns_kept := T.n_Ladder_returns_kept
  refine ⟨_, (pss_one (ps_ret (pe_fld (pv 0) rfl))), ?_⟩
  try dsimp only [cxOf, Cx.nox, Cx.wish]
  show (_ : TS) _ [some _] _
  o_readsAll
theorem ixN_at {n j : Nat} (h : j < n) : ixN n (j : Int) = some j := by
  unfold ixN
  rw [if_pos (by omega), if_pos (by omega), Int.toNat_natCast]
theorem rng_set (n j : Nat) (f : Nat → Int) (x : Int) : (rng n f).set j (.int x) = rng n (fun i => if i = j then x else f i) := by
  apply List.ext_getElem?
  intro i
  rw [List.getElem?_set]
  by_cases hi : i < n
  · rw [rng_at hi]
    by_cases h : j = i
    · subst h
      rw [if_pos rfl, if_pos (by rw [rng_len]; exact hi), rng_at hi, if_pos rfl]
    · rw [if_neg h, rng_at hi, if_neg (fun z => h z.symm)]
  · rw [List.getElem?_eq_none (by rw [rng_len]; omega), List.getElem?_eq_none (by rw [rng_len]; omega)]
    by_cases h : j = i
    · rw [if_pos h, if_neg (by rw [rng_len]; omega)]
    · rw [if_neg h]
theorem sum_rng (f : Nat → Int) : ∀ n, ((List.range n).map f).sum = sm f n
  | 0 => rfl
  | n + 1 => by rw [List.range_succ, List.map_append, List.sum_append, sum_rng f n, sm]; simp
theorem rng_ints (n : Nat) (f : Nat → Int) : rng n f = ((List.range n).map f).map V.int := by unfold rng; rw [List.map_map]; rfl
theorem g_sumI {p : Addr} {n : Nat} {f : Nat → Int} {H : Hp} {Q : VK} (h : IL H p n f) (k : Q (.int (sm f n)) H) : rSum K [.ref p] H Q := g_sum (ns := (List.range n).map f) (by rw [← rng_ints]; exact h.sq) (by rw [sum_rng]; exact k)
theorem flat_rng (n : Nat) (f : Nat → Int) : (rng n f).all flatV = true := by rw [rng_ints]; exact flat_ints _
theorem c_lnum {C l : Addr} {L : Int} {n : Nat} {fs : Nat → Int} {ret : Bool} {f : Int → Nat → Bool → V} {H : Hp} {Q : VK} {E : XK} (h : LadAt C H l L n fs ret) (k : Q (f L n ret) H) : sp_lnum C f [.ref l] H Q E := ⟨l, L, n, fs, ret, rfl, h, k⟩
def sp_lfalls (C : Addr) : Sp := fun vs H Q _ => ∃ (l : Addr) (L : Int) (n : Nat) (fs : Nat → Int) (ret : Bool), vs = [.ref l] ∧ LadAt C H l L n fs ret ∧ ∀ p H', H p = none → Same H H' → IL H' p n fs → Q (.ref p) H'
theorem d_Ladder_falls (T : Txt K w mg Z) : Mth P w K mg base 1 Z.a_Ladder "falls" ["self"] (sp_lfalls Z.a_Ladder) := by
  obtain ⟨f, fd, F, hm, hb⟩ := T.f_Ladder_falls
  refine ⟨⟨f, fd, F.ok sc_Ladder_falls (fun vs H Q E h => by first | (obtain ⟨rfl, _⟩ := h; rfl) | (obtain ⟨_, rfl, _⟩ := h; rfl) | (obtain ⟨_, _, rfl, _⟩ := h; rfl) | (obtain ⟨_, _, _, rfl, _⟩ := h; rfl) | (obtain ⟨_, _, _, _, rfl, _⟩ := h; rfl) | (obtain ⟨_, _, _, _, _, rfl, _⟩ := h; rfl) | (obtain ⟨_, _, _, _, _, _, rfl, _⟩ := h; rfl) | (obtain ⟨_, _, _, _, _, _, _, rfl, _⟩ := h; rfl) | (obtain ⟨_, _, _, _, _, _, _, _, rfl, _⟩ := h; rfl) | (obtain ⟨_, _, _, _, _, _, _, _, _, rfl, _⟩ := h; rfl) | (obtain ⟨_, _, _, _, _, _, _, _, _, _, rfl, _⟩ := h; rfl) | (obtain ⟨_, _, _, _, _, _, _, _, _, _, _, rfl, _⟩ := h; rfl) | (obtain ⟨_, _, _, _, _, _, _, _, _, _, _, _, rfl, _⟩ := h; rfl) | (obtain ⟨_, _, _, _, _, _, _, _, _, _, _, _, _, rfl, _⟩ := h; rfl) | (obtain ⟨_, _, _, _, _, _, _, _, _, _, _, _, _, _, rfl, _⟩ := h; rfl) | (obtain ⟨_, _, _, _, _, _, _, _, _, _, _, _, _, _, _, rfl, _⟩ := h; rfl) | (obtain ⟨_, _, _, _, _, _, _, _, _, _, _, _, _, _, _, _, rfl, _⟩ := h; rfl)) (fun cdv A outer s H vs Q E hr h => ?_), hm, hb⟩, T.l_Ladder⟩
  obtain ⟨l, L, n, fs, ret, rfl, ⟨dx, fl, lt, hl, wl, ps, h1, h2, h3, h4, h5, h6, h7⟩, k⟩ := h
  unfold IL at h2
  have l_Ladder := T.l_Ladder
  have n_Ladder_falls_list := T.n_Ladder_falls_list
  refine ⟨_, (pss_one (ps_ret (pe_callTy call_uList (by rfl) T.b_list bt_list (pa_cons (pe_fld (pv 0) rfl) pa_nil)))), ?_⟩
  try dsimp only [cxOf, Cx.nox, Cx.wish]
  show (_ : TS) _ [some _] _
  o_readsAll
  exact k _ _ (by assumption) (by assumption) (by assumption)
theorem c_lfalls {C l : Addr} {L : Int} {n : Nat} {fs : Nat → Int} {ret : Bool} {H : Hp} {Q : VK} {E : XK} (h : LadAt C H l L n fs ret) (k : ∀ p H', H p = none → Same H H' → IL H' p n fs → Q (.ref p) H') : sp_lfalls C [.ref l] H Q E := ⟨l, L, n, fs, ret, rfl, h, k⟩
/-- a ladder made, or refused -/
theorem c_lmakeX {fl : Addr} {L : Int} {l : List Int} {ret : Bool} {H : Hp} {Q : VK} {E : XK} (hf : H fl = some (.lst (l.map V.int))) (hn : l.length ≤ 41) (k1 : flt L l = none → ∀ x H', H x = none → Same H H' → LadFr Z.a_Ladder H H' x L l.length (fn l) ret → Q (.ref x) H') (k2 : ∀ nm v, flt L l = some (nm, v) → ∀ C f, ErrC Z nm C f → RaiseI C f v H E) : gMake Z.a_Ladder (sp_linit K Z) E [.int L, .ref fl, .bl ret] H Q := by
  intro x dx hx hdx hne
  have e0 : Same H (upd (upd H dx (.own x)) x (.ins Z.a_Ladder dx [])) := fun b u q => by rw [upd_ne (ne_of_none q hx), upd_ne (ne_of_none q hdx)]; exact q
  refine ⟨x, dx, fl, L, l, ret, rfl, upd_same, e0 _ _ hf, (ne_of_none hf hx).symm, hn, fun h H' o hl => ⟨rfl, k1 h x H' hx (fun b u q => o b u (ne_of_none q hx) (e0 b u q)) (hl.mono e0)⟩, fun nm v h C f ec => (k2 nm v h C f ec).same e0⟩
theorem c_lmake {fl : Addr} {L : Int} {l : List Int} {ret : Bool} {H : Hp} {Q : VK} {E : XK} (hf : H fl = some (.lst (l.map V.int))) (hok : flt L l = none) (k : ∀ x H', H x = none → Same H H' → LadFr Z.a_Ladder H H' x L l.length (fn l) ret → Q (.ref x) H') : gMake Z.a_Ladder (sp_linit K Z) E [.int L, .ref fl, .bl ret] H Q :=
  c_lmakeX hf (by have := flt_ok hok; omega) (fun _ => k) fun nm v h => by rw [hok] at h; cases h
/-- a ladder by its list of falls -/
def LadL (C : Addr) (H : Hp) (x : Addr) (L : Int) (l : List Int) (ret : Bool) : Prop := LadAt C H x L l.length (fn l) ret
def sp_lsame (C : Addr) : Sp := fun vs H Q _ => ∃ (x y : Addr) (L M : Int) (l m : List Int) (r s : Bool), vs = [.ref x, .ref y] ∧ LadL C H x L l r ∧ LadL C H y M m s ∧ ∀ H', Same H H' → Q (.bl (decide (L = M ∧ r = s ∧ l = m))) H'
end
end L29

namespace L29
set_option exponentiation.threshold 2000
open SX Ld
section
variable {P : Program} {w : World} {K : PySem.W.Frag} {mg : Str → Option Value} {base : Heap} {Z : Ad}
theorem c_lsame {C x y : Addr} {L M : Int} {l m : List Int} {r s : Bool} {H : Hp} {Q : VK} {E : XK} (hx : LadL C H x L l r) (hy : LadL C H y M m s) (k : ∀ H', Same H H' → Q (.bl (decide (L = M ∧ r = s ∧ l = m))) H') : sp_lsame C [.ref x, .ref y] H Q E := ⟨x, y, L, M, l, m, r, s, rfl, hx, hy, k⟩
theorem fn_take (l : List Int) {r : Nat} (h : r ≤ l.length) : ∀ i, i < r → fn (l.take r) i = fn l i := fun i hi => by
  unfold fn
  rw [List.getD_eq_getElem?_getD, List.getD_eq_getElem?_getD, List.getElem?_take_of_lt hi]
def sp_lcut (C : Addr) : Sp := fun vs H Q _ => ∃ (x : Addr) (a : Nat) (L : Int) (l : List Int) (r : Bool), vs = [.ref x, .int (a : Int)] ∧ LadL C H x L l r ∧ flt L l = none ∧ 1 ≤ a ∧ a ≤ l.length ∧ ∀ x' H', H x' = none → Same H H' → LadL C H' x' L (l.take a) false → Q (.ref x') H'
theorem c_lcut {C x : Addr} {a : Nat} {L : Int} {l : List Int} {r : Bool} {H : Hp} {Q : VK} {E : XK} (h : LadL C H x L l r) (ok : flt L l = none) (a1 : 1 ≤ a) (an : a ≤ l.length) (k : ∀ x' H', H x' = none → Same H H' → LadL C H' x' L (l.take a) false → Q (.ref x') H') : sp_lcut C [.ref x, .int (a : Int)] H Q E := ⟨x, a, L, l, r, rfl, h, ok, a1, an, k⟩
def sp_crung (C : Addr) : Sp := fun vs H Q _ => ∃ (x : Addr) (a : Nat) (L : Int) (n : Nat) (fs : Nat → Int) (r : Bool), vs = [.ref x, .int (a : Int)] ∧ LadAt C H x L n fs r ∧ a < n ∧ Q .non H
theorem c_crung {C x : Addr} {a : Nat} {L : Int} {n : Nat} {fs : Nat → Int} {r : Bool} {H : Hp} {Q : VK} {E : XK} (h : LadAt C H x L n fs r) (an : a < n) (k : Q .non H) : sp_crung C [.ref x, .int (a : Int)] H Q E := ⟨x, a, L, n, fs, r, rfl, h, an, k⟩
/-- which counts are wrong -/
def badC (f : Nat → Int) (i : Nat) : Prop := f i < 0
instance (f : Nat → Int) : DecidablePred (badC f) := fun i => by unfold badC; infer_instance
def wrc (n m : Nat) (f : Nat → Int) : Option Int := if n ≠ m then some (-1) else Option.map (fun (i : Nat) => (i : Int)) (fb (badC f) n)
def sp_wcount : Sp := fun vs H Q _ => ∃ (c : Addr) (n m : Nat) (cs : Nat → Int), vs = [.ref c, .int (m : Int)] ∧ IL H c n cs ∧ n ≤ 41 ∧ ∀ H', Same H H' → Q (bw (wrc n m cs)) H'
theorem d_wrong_count (T : Txt K w mg Z) : Dfn P w K mg base 1 "wrong_count" ["counts", "rungs"] (sp_wcount) := by
  obtain ⟨f, fd, F, hm, hb⟩ := T.f_wrong_count
  refine ⟨f, fd, F.ok sc_wrong_count (fun vs H Q E h => by first | (obtain ⟨rfl, _⟩ := h; rfl) | (obtain ⟨_, rfl, _⟩ := h; rfl) | (obtain ⟨_, _, rfl, _⟩ := h; rfl) | (obtain ⟨_, _, _, rfl, _⟩ := h; rfl) | (obtain ⟨_, _, _, _, rfl, _⟩ := h; rfl) | (obtain ⟨_, _, _, _, _, rfl, _⟩ := h; rfl) | (obtain ⟨_, _, _, _, _, _, rfl, _⟩ := h; rfl) | (obtain ⟨_, _, _, _, _, _, _, rfl, _⟩ := h; rfl) | (obtain ⟨_, _, _, _, _, _, _, _, rfl, _⟩ := h; rfl) | (obtain ⟨_, _, _, _, _, _, _, _, _, rfl, _⟩ := h; rfl) | (obtain ⟨_, _, _, _, _, _, _, _, _, _, rfl, _⟩ := h; rfl) | (obtain ⟨_, _, _, _, _, _, _, _, _, _, _, rfl, _⟩ := h; rfl) | (obtain ⟨_, _, _, _, _, _, _, _, _, _, _, _, rfl, _⟩ := h; rfl) | (obtain ⟨_, _, _, _, _, _, _, _, _, _, _, _, _, rfl, _⟩ := h; rfl) | (obtain ⟨_, _, _, _, _, _, _, _, _, _, _, _, _, _, rfl, _⟩ := h; rfl) | (obtain ⟨_, _, _, _, _, _, _, _, _, _, _, _, _, _, _, rfl, _⟩ := h; rfl) | (obtain ⟨_, _, _, _, _, _, _, _, _, _, _, _, _, _, _, _, rfl, _⟩ := h; rfl)) (fun cdv A outer s H vs Q E hr h => ?_), hm, F.kp, hb⟩
  obtain ⟨c, n, m, cs, rfl, hc, hn, k⟩ := h
  unfold IL at hc
  refine ⟨_, (pss_cons (ps_if (pt_cmpR (op_uNe hr.units) (pe_callB call_uLen (by rfl) T.b_len bt_len (pa_cons (pv 0) pa_nil)) (pv 1) (nomark _)) (pss_one (ps_ret (pe_un un_neg pe_int))) pss_nil)
      (pss_cons (ps_for PassesOwn.never rfl (pi_enum (by rfl) T.b_enumerate (pa_cons (pv 0) pa_nil)) (pg_tup (by rfl) (pgs_cons (pg_name (i := 2) sc_wrong_count.nd rfl (.inl rfl)) (pgs_cons (pg_name (i := 3) sc_wrong_count.nd rfl (.inl rfl)) pgs_nil)))
        (pss_one (ps_if (pt_cmpR op_lt (pv 3) pe_int (nomark _)) (pss_one (ps_ret (pv 2))) pss_nil)))
      (pss_one (ps_ret pe_non)))), ?_⟩
  try dsimp only [cxOf, Cx.nox, Cx.wish]
  show (_ : TS) _ [some _, some _, none, none] _
  o_readsAll
  rw [rng_len]
  refine brn (fun h => ?_) (fun h => ?_)
  · o_readsAll
    rw [wrc, if_pos (by omega)] at k
    exact k _ (Same.refl _)
  · rw [wrc, if_neg (by omega)] at k
    o_readsAll
    refine f_enum (xs := rng n cs) (fun i σ' H' => ∃ a b, σ' = [some (.ref c), some (.int (m : Int)), a, b] ∧ Same H H' ∧ ∀ j, j < i → ¬ badC cs j) ⟨_, _, rfl, Same.refl _, fun j hj => by omega⟩ ?_ ?_ ?_
    · rintro i σ' H2 hi ⟨a, b, rfl, e2, _⟩
      exact .of (e2 _ _ hc)
    · rintro i y σ' H2 T1 H3 hy ⟨a, b, rfl, e2, hp⟩ hT e3 h3
      have hi : i < n := by have := (List.getElem?_eq_some_iff.mp hy).1; rw [rng_len] at this; exact this
      rw [rng_at hi] at hy
      cases hy
      o_readsAll
      refine br (fun hb => ?_) (fun hb => ?_)
      · o_readsAll
        rw [fb_at (show badC cs i from hb) hp hi] at k
        exact k _ (e2.trans e3)
      · o_readsAll
        exact ⟨_, _, rfl, e2.trans e3, fun j hj => by
          by_cases e : j = i
          · rw [e]; exact hb
          · exact hp j (by omega)⟩
    · rintro σ' H2 ⟨a, b, rfl, e2, hp⟩
      rw [rng_len] at hp
      rw [fb_none hp] at k
      o_readsAll
      exact k _ e2
theorem c_wcount {c : Addr} {n m : Nat} {cs : Nat → Int} {H : Hp} {Q : VK} {E : XK} (hc : IL H c n cs) (hn : n ≤ 41) (k : ∀ H', Same H H' → Q (bw (wrc n m cs)) H') : sp_wcount [.ref c, .int (m : Int)] H Q E := ⟨c, n, m, cs, rfl, hc, hn, k⟩
def TabAt (C CL : Addr) (H : Hp) (t : Addr) (L : Int) (n : Nat) (fs : Nat → Int) (ret : Bool) (cs : Nat → Int) : Prop := ∃ dx l cl, H t = some (.ins C dx [("ladder_kept", .ref l), ("counts_list", .ref cl)]) ∧ IL H cl n cs ∧ LadAt CL H l L n fs ret
theorem TabAt.same {C CL : Addr} {H H' : Hp} {t : Addr} {L : Int} {n : Nat} {fs : Nat → Int} {ret : Bool} {cs : Nat → Int} (h : TabAt C CL H t L n fs ret cs) (e : Same H H') : TabAt C CL H' t L n fs ret cs := by
  obtain ⟨dx, l, cl, a, b, c⟩ := h
  exact ⟨dx, l, cl, e _ _ a, b.same e, c.same e⟩
theorem TabAt.ext {C CL : Addr} {H H' : Hp} {t : Addr} {L : Int} {n : Nat} {fs : Nat → Int} {ret : Bool} {cs : Nat → Int} (h : TabAt C CL H t L n fs ret cs) (e : LamX.ExtN H H') : TabAt C CL H' t L n fs ret cs := by
  obtain ⟨dx, l, cl, a, b, c⟩ := h
  exact ⟨dx, l, cl, e _ _ a (fun _ z => nomatch z), e _ _ b (fun _ z => nomatch z), c.ext e⟩
theorem wrc_ok {n m : Nat} {f : Nat → Int} (h : wrc n m f = none) : n = m ∧ ∀ i, i < n → 0 ≤ f i := by
  unfold wrc at h
  split at h
  · cases h
  · rename_i e
    refine ⟨Decidable.byContradiction e, fun i hi => ?_⟩
    rcases fb_cases (p := badC f) n with ⟨_, hb⟩ | ⟨i, e, _⟩
    · exact Int.not_lt.mp (hb i hi)
    · rw [e] at h; cases h
theorem ok_wrc {n : Nat} {f : Nat → Int} (h : ∀ i, i < n → 0 ≤ f i) : wrc n n f = none := by
  unfold wrc
  rw [if_neg (fun z => z rfl), fb_none (p := badC f) fun i hi z => absurd (h i hi) (Int.not_le.mpr z)]
  rfl
def sp_tinit (C CL CB : Addr) : Sp := fun vs H Q E => ∃ (x dx l c : Addr) (L : Int) (n m : Nat) (fs : Nat → Int) (ret : Bool) (cs : Nat → Int), vs = [.ref x, .ref l, .ref c] ∧ H x = some (.ins C dx []) ∧ LadAt CL H l L m fs ret ∧ IL H c n cs ∧ n ≤ 41 ∧ x ≠ l ∧ x ≠ c ∧ (wrc n m cs = none → ∀ H' cl, H cl = none → Off x H H' → H' x = some (.ins C dx [("ladder_kept", .ref l), ("counts_list", .ref cl)]) → IL H' cl n cs → Q .non H') ∧ (∀ r, wrc n m cs = some r → RaiseI CB "rung" (.int r) H E)
theorem d_Table_init (T : Txt K w mg Z) : IniX P w K mg base 3 "Table" Z.a_Table ["self", "ladder", "counts"] (sp_tinit Z.a_Table Z.a_Ladder Z.a_BadTable) := by
  obtain ⟨f, fd, F, hM, hm, hb⟩ := T.f_Table_init
  refine ⟨f, fd, F.okX sc_Table_init (fun vs H Q E h => by first | (obtain ⟨rfl, _⟩ := h; rfl) | (obtain ⟨_, rfl, _⟩ := h; rfl) | (obtain ⟨_, _, rfl, _⟩ := h; rfl) | (obtain ⟨_, _, _, rfl, _⟩ := h; rfl) | (obtain ⟨_, _, _, _, rfl, _⟩ := h; rfl) | (obtain ⟨_, _, _, _, _, rfl, _⟩ := h; rfl) | (obtain ⟨_, _, _, _, _, _, rfl, _⟩ := h; rfl) | (obtain ⟨_, _, _, _, _, _, _, rfl, _⟩ := h; rfl) | (obtain ⟨_, _, _, _, _, _, _, _, rfl, _⟩ := h; rfl) | (obtain ⟨_, _, _, _, _, _, _, _, _, rfl, _⟩ := h; rfl) | (obtain ⟨_, _, _, _, _, _, _, _, _, _, rfl, _⟩ := h; rfl) | (obtain ⟨_, _, _, _, _, _, _, _, _, _, _, rfl, _⟩ := h; rfl) | (obtain ⟨_, _, _, _, _, _, _, _, _, _, _, _, rfl, _⟩ := h; rfl) | (obtain ⟨_, _, _, _, _, _, _, _, _, _, _, _, _, rfl, _⟩ := h; rfl) | (obtain ⟨_, _, _, _, _, _, _, _, _, _, _, _, _, _, rfl, _⟩ := h; rfl) | (obtain ⟨_, _, _, _, _, _, _, _, _, _, _, _, _, _, _, rfl, _⟩ := h; rfl) | (obtain ⟨_, _, _, _, _, _, _, _, _, _, _, _, _, _, _, _, rfl, _⟩ := h; rfl)) (fun cdv A outer s H vs Q E hr h => ?_), hM, hm, hb⟩
  obtain ⟨x, dx, l, c, L, n, m, fs, ret, cs, rfl, hx, hl, hc, hn, nl, nc, k1, k2⟩ := h
  have hl' := hl
  obtain ⟨ldx, fl, lt, hh, wl, ps, a1, a2, a3, a4, a5, a6, a7⟩ := hl'
  have D_wrong_count := d_wrong_count (P := P) (base := base) T
  have D_Ladder_rungs := d_Ladder_rungs (P := P) (base := base) T
  have D_BadTable_init := d_BadTable_init (P := P) (base := base) T
  have l_Table := T.l_Table
  have n_Table_ladder_kept := T.n_Table_ladder_kept
  have n_Table_counts_list := T.n_Table_counts_list
  refine ⟨_, (pss_cons (ps_set (i := 3) sc_Table_init.nd rfl (.inl rfl) (pe_dfn D_wrong_count (hr.mono (by decide)) (by rfl) (pa_cons (pv 2) (pa_cons (pe_mth0 D_Ladder_rungs (hr.mono (by decide)) (pv 1)) pa_nil))))
      (pss_cons (ps_if (pt_cmpR op_uNotN (pv 3) pe_non (nomark _)) (pss_one (ps_rs (takes_of rfl rfl rfl rfl) (pmk_iex D_BadTable_init (hr.mono (by decide)) (by rfl) (pa_cons (pv 3) pa_nil)) rfl)) pss_nil)
      (pss_cons (ps_fld (pv 0) (pv 1) rfl)
      (pss_one (ps_fld (pv 0) (pe_callTy call_uList (by rfl) T.b_list bt_list (pa_cons (pv 2) pa_nil)) rfl))))), ?_⟩
  try dsimp only [cxOf, Cx.nox, Cx.wish]
  show (_ : TS) _ [some _, some _, some _, none] _
  o_readsAll
  refine c_lnum hl ?_
  o_readsAll
  refine c_wcount hc hn fun H1 e1 => ?_
  have hx1 := e1 _ _ hx
  have hc1 : H1 c = some (.lst (rng n cs)) := hc.same e1
  cases hw : wrc n m cs with
  | some r =>
    show gName _ (.int r) _ _ _
    o_readsAll
    refine c_raise fun d H2 fd e2 hd => ?_
    exact k2 r hw d H2 (e1.free fd) (e1.trans e2) hd
  | none =>
    show gName _ .non _ _ _
    o_readsAll
    rename_i cl H2 fcl e2 h2
    have ncl : x ≠ cl := ne_of_none upd_same fcl
    refine k1 hw _ cl (e1.free (upd_none fcl)) ((((off_of e1).upd).same e2).upd) upd_same ?_
    unfold IL
    o_shape
/-- a table made, or refused -/
theorem c_tmakeX {C CL CB l c : Addr} {L : Int} {n m : Nat} {fs : Nat → Int} {ret : Bool} {cs : Nat → Int} {H : Hp} {Q : VK} {E : XK} (hl : LadAt CL H l L m fs ret) (hc : IL H c n cs) (hn : n ≤ 41) (k1 : wrc n m cs = none → ∀ t H' dx cl, H t = none → H cl = none → Same H H' → H' t = some (.ins C dx [("ladder_kept", .ref l), ("counts_list", .ref cl)]) → IL H' cl n cs → LadAt CL H' l L m fs ret → Q (.ref t) H') (k2 : ∀ r, wrc n m cs = some r → RaiseI CB "rung" (.int r) H E) : gMake C (sp_tinit C CL CB) E [.ref l, .ref c] H Q := by
  intro x dx hx hdx hne
  have e0 : Same H (upd (upd H dx (.own x)) x (.ins C dx [])) := fun b u q => by rw [upd_ne (ne_of_none q hx), upd_ne (ne_of_none q hdx)]; exact q
  have n1 : x ≠ c := (ne_of_none hc hx).symm
  have n2 : x ≠ l := by
    obtain ⟨_, _, _, _, _, _, a, _⟩ := hl
    exact (ne_of_none a hx).symm
  refine ⟨x, dx, l, c, L, n, m, fs, ret, cs, rfl, upd_same, hl.same e0, hc.same e0, hn, n2, n1, fun h H' cl fcl o h1 h2 => ⟨rfl, ?_⟩, fun r hr => (k2 r hr).same e0⟩
  have e1 : Same H H' := fun b u q => o b u (ne_of_none q hx) (e0 b u q)
  exact k1 h x H' dx cl hx (e0.free fcl) e1 h1 h2 (hl.same e1)
theorem c_tmake {C CL CB l c : Addr} {L : Int} {n : Nat} {fs : Nat → Int} {ret : Bool} {cs : Nat → Int} {H : Hp} {Q : VK} {E : XK} (hl : LadAt CL H l L n fs ret) (hc : IL H c n cs) (hn : n ≤ 41) (h0 : ∀ i, i < n → 0 ≤ cs i) (k : ∀ t H', H t = none → Same H H' → TabAt C CL H' t L n fs ret cs → Q (.ref t) H') : gMake C (sp_tinit C CL CB) E [.ref l, .ref c] H Q :=
  c_tmakeX hl hc hn (fun _ t H' dx cl ht _ e h1 h2 h3 => k t H' ht e ⟨dx, l, cl, h1, h2, h3⟩) fun r hr => by rw [ok_wrc h0] at hr; cases hr
def sp_tlad (C CL : Addr) : Sp := fun vs H Q _ => ∃ (t : Addr) (L : Int) (n : Nat) (fs : Nat → Int) (ret : Bool) (cs : Nat → Int), vs = [.ref t] ∧ TabAt C CL H t L n fs ret cs ∧ ∀ l, LadAt CL H l L n fs ret → Q (.ref l) H
theorem d_Table_ladder (T : Txt K w mg Z) : Mth P w K mg base 1 Z.a_Table "ladder" ["self"] (sp_tlad Z.a_Table Z.a_Ladder) := by
  obtain ⟨f, fd, F, hm, hb⟩ := T.f_Table_ladder
  refine ⟨⟨f, fd, F.ok sc_Table_ladder (fun vs H Q E h => by first | (obtain ⟨rfl, _⟩ := h; rfl) | (obtain ⟨_, rfl, _⟩ := h; rfl) | (obtain ⟨_, _, rfl, _⟩ := h; rfl) | (obtain ⟨_, _, _, rfl, _⟩ := h; rfl) | (obtain ⟨_, _, _, _, rfl, _⟩ := h; rfl) | (obtain ⟨_, _, _, _, _, rfl, _⟩ := h; rfl) | (obtain ⟨_, _, _, _, _, _, rfl, _⟩ := h; rfl) | (obtain ⟨_, _, _, _, _, _, _, rfl, _⟩ := h; rfl) | (obtain ⟨_, _, _, _, _, _, _, _, rfl, _⟩ := h; rfl) | (obtain ⟨_, _, _, _, _, _, _, _, _, rfl, _⟩ := h; rfl) | (obtain ⟨_, _, _, _, _, _, _, _, _, _, rfl, _⟩ := h; rfl) | (obtain ⟨_, _, _, _, _, _, _, _, _, _, _, rfl, _⟩ := h; rfl) | (obtain ⟨_, _, _, _, _, _, _, _, _, _, _, _, rfl, _⟩ := h; rfl) | (obtain ⟨_, _, _, _, _, _, _, _, _, _, _, _, _, rfl, _⟩ := h; rfl) | (obtain ⟨_, _, _, _, _, _, _, _, _, _, _, _, _, _, rfl, _⟩ := h; rfl) | (obtain ⟨_, _, _, _, _, _, _, _, _, _, _, _, _, _, _, rfl, _⟩ := h; rfl) | (obtain ⟨_, _, _, _, _, _, _, _, _, _, _, _, _, _, _, _, rfl, _⟩ := h; rfl)) (fun cdv A outer s H vs Q E hr h => ?_), hm, hb⟩, T.l_Table⟩
  obtain ⟨t, L, n, fs, ret, cs, rfl, ⟨dx, l, cl, h1, h2, h3⟩, k⟩ := h
  have l_Table := T.l_Table
  have n_Table_ladder_kept := T.n_Table_ladder_kept
  refine ⟨_, (pss_one (ps_ret (pe_fld (pv 0) rfl))), ?_⟩
  try dsimp only [cxOf, Cx.nox, Cx.wish]
  show (_ : TS) _ [some _] _
  o_readsAll
  exact k l h3
def sp_tcnt (C CL : Addr) : Sp := fun vs H Q _ => ∃ (t : Addr) (L : Int) (n : Nat) (fs : Nat → Int) (ret : Bool) (cs : Nat → Int), vs = [.ref t] ∧ TabAt C CL H t L n fs ret cs ∧ ∀ p H', H p = none → Same H H' → IL H' p n cs → Q (.ref p) H'
theorem d_Table_counts (T : Txt K w mg Z) : Mth P w K mg base 1 Z.a_Table "counts" ["self"] (sp_tcnt Z.a_Table Z.a_Ladder) := by
  obtain ⟨f, fd, F, hm, hb⟩ := T.f_Table_counts
  refine ⟨⟨f, fd, F.ok sc_Table_counts (fun vs H Q E h => by first | (obtain ⟨rfl, _⟩ := h; rfl) | (obtain ⟨_, rfl, _⟩ := h; rfl) | (obtain ⟨_, _, rfl, _⟩ := h; rfl) | (obtain ⟨_, _, _, rfl, _⟩ := h; rfl) | (obtain ⟨_, _, _, _, rfl, _⟩ := h; rfl) | (obtain ⟨_, _, _, _, _, rfl, _⟩ := h; rfl) | (obtain ⟨_, _, _, _, _, _, rfl, _⟩ := h; rfl) | (obtain ⟨_, _, _, _, _, _, _, rfl, _⟩ := h; rfl) | (obtain ⟨_, _, _, _, _, _, _, _, rfl, _⟩ := h; rfl) | (obtain ⟨_, _, _, _, _, _, _, _, _, rfl, _⟩ := h; rfl) | (obtain ⟨_, _, _, _, _, _, _, _, _, _, rfl, _⟩ := h; rfl) | (obtain ⟨_, _, _, _, _, _, _, _, _, _, _, rfl, _⟩ := h; rfl) | (obtain ⟨_, _, _, _, _, _, _, _, _, _, _, _, rfl, _⟩ := h; rfl) | (obtain ⟨_, _, _, _, _, _, _, _, _, _, _, _, _, rfl, _⟩ := h; rfl) | (obtain ⟨_, _, _, _, _, _, _, _, _, _, _, _, _, _, rfl, _⟩ := h; rfl) | (obtain ⟨_, _, _, _, _, _, _, _, _, _, _, _, _, _, _, rfl, _⟩ := h; rfl) | (obtain ⟨_, _, _, _, _, _, _, _, _, _, _, _, _, _, _, _, rfl, _⟩ := h; rfl)) (fun cdv A outer s H vs Q E hr h => ?_), hm, hb⟩, T.l_Table⟩
  obtain ⟨t, L, n, fs, ret, cs, rfl, ⟨dx, l, cl, h1, h2, h3⟩, k⟩ := h
  unfold IL at h2
  have l_Table := T.l_Table
  have n_Table_counts_list := T.n_Table_counts_list
  refine ⟨_, (pss_one (ps_ret (pe_callTy call_uList (by rfl) T.b_list bt_list (pa_cons (pe_fld (pv 0) rfl) pa_nil)))), ?_⟩
  try dsimp only [cxOf, Cx.nox, Cx.wish]
  show (_ : TS) _ [some _] _
  o_readsAll
  exact k _ _ (by assumption) (by assumption) (by assumption)
theorem c_tlad {C CL t : Addr} {L : Int} {n : Nat} {fs : Nat → Int} {ret : Bool} {cs : Nat → Int} {H : Hp} {Q : VK} {E : XK} (h : TabAt C CL H t L n fs ret cs) (k : ∀ l, LadAt CL H l L n fs ret → Q (.ref l) H) : sp_tlad C CL [.ref t] H Q E := ⟨t, L, n, fs, ret, cs, rfl, h, k⟩
theorem c_tcnt {C CL t : Addr} {L : Int} {n : Nat} {fs : Nat → Int} {ret : Bool} {cs : Nat → Int} {H : Hp} {Q : VK} {E : XK} (h : TabAt C CL H t L n fs ret cs) (k : ∀ p H', H p = none → Same H H' → IL H' p n cs → Q (.ref p) H') : sp_tcnt C CL [.ref t] H Q E := ⟨t, L, n, fs, ret, cs, rfl, h, k⟩
def sp_tplayers (C CL : Addr) : Sp := fun vs H Q _ => ∃ (t : Addr) (L : Int) (n : Nat) (fs : Nat → Int) (ret : Bool) (cs : Nat → Int), vs = [.ref t] ∧ TabAt C CL H t L n fs ret cs ∧ Q (.int (sm cs n)) H
theorem c_tplayers {C CL t : Addr} {L : Int} {n : Nat} {fs : Nat → Int} {ret : Bool} {cs : Nat → Int} {H : Hp} {Q : VK} {E : XK} (h : TabAt C CL H t L n fs ret cs) (k : Q (.int (sm cs n)) H) : sp_tplayers C CL [.ref t] H Q E := ⟨t, L, n, fs, ret, cs, rfl, h, k⟩
def sp_tmoved (C CL : Addr) : Sp := fun vs H Q _ => ∃ (t : Addr) (a : Nat) (m L : Int) (n : Nat) (fs : Nat → Int) (ret : Bool) (cs : Nat → Int), vs = [.ref t, .int (a : Int), .int m] ∧ TabAt C CL H t L n fs ret cs ∧ n ≤ 40 ∧ a < n ∧ (∀ i, i < n → 0 ≤ (if i = a then cs a + m else cs i)) ∧ ∀ t' H', H t' = none → Same H H' → TabAt C CL H' t' L n fs ret (fun i => if i = a then cs a + m else cs i) → Q (.ref t') H'
theorem c_tmoved {C CL t : Addr} {a : Nat} {m L : Int} {n : Nat} {fs : Nat → Int} {ret : Bool} {cs : Nat → Int} {H : Hp} {Q : VK} {E : XK} (h : TabAt C CL H t L n fs ret cs) (n40 : n ≤ 40) (an : a < n) (h0 : ∀ i, i < n → 0 ≤ (if i = a then cs a + m else cs i)) (k : ∀ t' H', H t' = none → Same H H' → TabAt C CL H' t' L n fs ret (fun i => if i = a then cs a + m else cs i) → Q (.ref t') H') : sp_tmoved C CL [.ref t, .int (a : Int), .int m] H Q E := ⟨t, a, m, L, n, fs, ret, cs, rfl, h, n40, an, h0, k⟩
def sp_tput (C CL : Addr) : Sp := fun vs H Q _ => ∃ (t : Addr) (a : Nat) (m L : Int) (n : Nat) (fs : Nat → Int) (ret : Bool) (cs : Nat → Int), vs = [.ref t, .int (a : Int), .int m] ∧ TabAt C CL H t L n fs ret cs ∧ n ≤ 40 ∧ a < n ∧ 0 ≤ m ∧ (∀ i, i < n → 0 ≤ cs i) ∧ ∀ t' H', H t' = none → Same H H' → TabAt C CL H' t' L n fs ret (fun i => if i = a then cs a + m else cs i) → Q (.ref t') H'
def sp_ttake (C CL : Addr) : Sp := fun vs H Q _ => ∃ (t : Addr) (a : Nat) (m L : Int) (n : Nat) (fs : Nat → Int) (ret : Bool) (cs : Nat → Int), vs = [.ref t, .int (a : Int), .int m] ∧ TabAt C CL H t L n fs ret cs ∧ n ≤ 40 ∧ a < n ∧ 0 ≤ m ∧ m ≤ cs a ∧ (∀ i, i < n → 0 ≤ cs i) ∧ ∀ t' H', H t' = none → Same H H' → TabAt C CL H' t' L n fs ret (fun i => if i = a then cs a + (0 - m) else cs i) → Q (.ref t') H'
/-- a table by its ladder's list of falls -/
abbrev TabL (C CL : Addr) (H : Hp) (t : Addr) (L : Int) (l : List Int) (r : Bool) (cs : Nat → Int) : Prop := TabAt C CL H t L l.length (fn l) r cs
def sp_tsame (C CL : Addr) : Sp := fun vs H Q _ => ∃ (t u : Addr) (L M : Int) (l m : List Int) (r s : Bool) (cs ds : Nat → Int), vs = [.ref t, .ref u] ∧ TabL C CL H t L l r cs ∧ TabL C CL H u M m s ds ∧ ∀ H', Same H H' → Q (.bl (decide (L = M ∧ r = s ∧ l = m) && decide ((List.range l.length).map cs = (List.range m.length).map ds))) H'
theorem c_tsame {C CL t u : Addr} {L M : Int} {l m : List Int} {r s : Bool} {cs ds : Nat → Int} {H : Hp} {Q : VK} {E : XK} (ht : TabL C CL H t L l r cs) (hu : TabL C CL H u M m s ds) (k : ∀ H', Same H H' → Q (.bl (decide (L = M ∧ r = s ∧ l = m) && decide ((List.range l.length).map cs = (List.range m.length).map ds))) H') : sp_tsame C CL [.ref t, .ref u] H Q E := ⟨t, u, L, M, l, m, r, s, cs, ds, rfl, ht, hu, k⟩
end
end L29

namespace L29
set_option exponentiation.threshold 9000
open SX Ld Rd
section
variable {P : Program} {w : World} {K : PySem.W.Frag} {mg : Str → Option Value} {base : Heap} {Z : Ad}
def sp_kstep : Sp := fun vs H Q _ => ∃ (p cq kq : Addr) (L : Int) (n : Nat) (fs : Nat → Int) (ret : Bool) (c kn : Nat → Int), vs = [.ref p, .ref cq, .ref kq] ∧ PlA H p L n fs ret ∧ IL H cq n c ∧ IL H kq n kn ∧ 2 ≤ L ∧ L ≤ 6 ∧ 0 < n ∧ n ≤ 4 ∧ OkF fs ∧ (∀ i, i < n → (kn i).natAbs < 2 ^ 3000) ∧ ∀ q H', H q = none → Same H H' → IL H' q n (stp L n fs ret c kn) → Q (.ref q) H'
theorem d_law_k29_step (T : Txt K w mg Z) : Dfn P w K mg base 1 "_law_k29_step" ["plain", "counts", "known"] (sp_kstep) := by
  obtain ⟨f, fd, F, hm, hb⟩ := T.f_law_k29_step
  refine ⟨f, fd, F.ok sc_law_k29_step (fun vs H Q E h => by first | (obtain ⟨rfl, _⟩ := h; rfl) | (obtain ⟨_, rfl, _⟩ := h; rfl) | (obtain ⟨_, _, rfl, _⟩ := h; rfl) | (obtain ⟨_, _, _, rfl, _⟩ := h; rfl) | (obtain ⟨_, _, _, _, rfl, _⟩ := h; rfl) | (obtain ⟨_, _, _, _, _, rfl, _⟩ := h; rfl) | (obtain ⟨_, _, _, _, _, _, rfl, _⟩ := h; rfl) | (obtain ⟨_, _, _, _, _, _, _, rfl, _⟩ := h; rfl) | (obtain ⟨_, _, _, _, _, _, _, _, rfl, _⟩ := h; rfl) | (obtain ⟨_, _, _, _, _, _, _, _, _, rfl, _⟩ := h; rfl) | (obtain ⟨_, _, _, _, _, _, _, _, _, _, rfl, _⟩ := h; rfl) | (obtain ⟨_, _, _, _, _, _, _, _, _, _, _, rfl, _⟩ := h; rfl) | (obtain ⟨_, _, _, _, _, _, _, _, _, _, _, _, rfl, _⟩ := h; rfl) | (obtain ⟨_, _, _, _, _, _, _, _, _, _, _, _, _, rfl, _⟩ := h; rfl) | (obtain ⟨_, _, _, _, _, _, _, _, _, _, _, _, _, _, rfl, _⟩ := h; rfl) | (obtain ⟨_, _, _, _, _, _, _, _, _, _, _, _, _, _, _, rfl, _⟩ := h; rfl) | (obtain ⟨_, _, _, _, _, _, _, _, _, _, _, _, _, _, _, _, rfl, _⟩ := h; rfl)) (fun cdv A outer s H vs Q E hr h => ?_), hm, F.kp, hb⟩
  obtain ⟨p, cq, kq, L, n, fs, ret, c, kn, rfl, ⟨fl, hp, hf⟩, hc, hk, l2, l6, n0, n4, ok, kb, k⟩ := h
  have hf' := hf
  unfold IL at hf'
  refine ⟨_, (pss_cons (ps_asg (pv 0) (pg_unl (by rfl) (pgs_cons (pg_name (i := 3) sc_law_k29_step.nd rfl (.inl rfl)) (pgs_cons (pg_name (i := 4) sc_law_k29_step.nd rfl (.inl rfl)) (pgs_cons (pg_name (i := 5) sc_law_k29_step.nd rfl (.inl rfl)) pgs_nil)))))
      (pss_cons (ps_set (i := 6) sc_law_k29_step.nd rfl (.inl rfl) (pe_callB call_uLen (by rfl) T.b_len bt_len (pa_cons (pv 4) pa_nil)))
      (pss_cons (ps_set (i := 7) sc_law_k29_step.nd rfl (.inl rfl) (pe_lst pa_nil))
      (pss_cons (ps_for PassesOwn.never rfl (pi_range1 (by rfl) T.b_range (pa_cons (pv 6) pa_nil)) (pg_name (i := 8) sc_law_k29_step.nd rfl (.inl rfl))
        (pss_cons (ps_set (i := 9) sc_law_k29_step.nd rfl (.inl rfl) (pe_op op_uAdd (pe_ix ix_seq (pv 1) (pv 8) (fun _ _ => rfl)) (pe_ifExp (pt_cmpR op_gt (pv 8) pe_int (nomark _)) (pe_ix ix_seq (pv 2) (pe_op op_sub (pv 8) pe_int) (fun _ _ => rfl)) pe_int)))
      (pss_cons (ps_for PassesOwn.never rfl (pi_range1 (by rfl) T.b_range (pa_cons (pv 6) pa_nil)) (pg_name (i := 10) sc_law_k29_step.nd rfl (.inl rfl))
        (pss_one (ps_if (pt_cmpR (op_uEq hr.units) (pe_ix ix_seq (pv 4) (pv 10) (fun _ _ => rfl)) (pv 8) (nomark _)) (pss_one (ps_aug (i := 9) sc_law_k29_step.nd rfl (.inl rfl) (pe_op op_uMul (pe_op op_sub (pv 3) pe_int) (pe_ix ix_seq (pv 2) (pv 10) (fun _ _ => rfl))) ip_add)) pss_nil)))
      (pss_cons (ps_if (PW.pt (pw_and (pt_cmpR (op_uEq hr.units) (pv 8) pe_int (nomark _)) (pw_and1 (pt_u (pv 5))))) (pss_one (ps_aug (i := 9) sc_law_k29_step.nd rfl (.inl rfl) (pe_ix ix_seq (pv 2) (pe_op op_sub (pv 6) pe_int) (fun _ _ => rfl)) ip_add)) pss_nil)
      (pss_one (ps_expr (pe_bm PySem.F.plainAttrs_list PySem.F.slot_list_append PySem.F.type_list_append mt_append (pv 7) (pa_cons (pe_op op_uDiv (pv 9) (pv 3)) pa_nil))))))))
      (pss_one (ps_ret (pv 7))))))), ?_⟩
  try dsimp only [cxOf, Cx.nox, Cx.wish]
  show (_ : TS) _ [some _, some _, some _, none, none, none, none, none, none, none, none] _
  o_readsAll
  rw [rng_len]
  rename_i r H1 fr e1 hr1 N hN
  refine f_rng (fun i σ' H' => ∃ (x8 x9 x10 : Option V), σ' = [some (.ref p), some (.ref cq), some (.ref kq), some (.int L), some (.ref fl), some (.bl ret), some (.int (n : Int)), some (.ref r), x8, x9, x10] ∧ Same H H' ∧ IL H' r i (stp L n fs ret c kn)) ⟨_, _, _, rfl, e1, hr1⟩ ?_ ?_
  · rintro i σ' H2 hi ⟨x8, x9, x10, rfl, e2, h2⟩
    rw [Int.toNat_natCast] at hi
    rw [Int.zero_add]
    o_readsAll
    refine g_ixL (hc.same e2).sq (atI_nat (rng_at hi)) ?_
    o_readsAll
    refine jnE (fun x H' => x = .int (if 0 < i then kn (i - 1) else 0) ∧ H' = H2) ?_ (fun Q' hQ => br (fun h => ?_) (fun h => ?_))
    · rintro x G ⟨rfl, hG⟩
      rw [hG]
      clear hG
      o_readsAll
      refine f_rng (fun j σ' H' => ∃ (x10 : Option V), σ' = [some (.ref p), some (.ref cq), some (.ref kq), some (.int L), some (.ref fl), some (.bl ret), some (.int (n : Int)), some (.ref r), some (.int (i : Int)), some (.int (c i + (if 0 < i then kn (i - 1) else 0) + sm (fun e => if fs e = (i : Int) then (L - 1) * kn e else 0) j)), x10] ∧ H' = H2) ⟨_, by show _ = [_, _, _, _, _, _, _, _, _, some (V.int (c i + _ + 0)), _]; rw [Int.add_zero]; rfl, rfl⟩ ?_ ?_
      · rintro j σ' G hj ⟨x10, rfl, hG⟩
        rw [hG]
        clear hG
        rw [Int.toNat_natCast] at hj
        rw [Int.zero_add]
        o_readsAll
        refine g_ixL (hf.same e2).sq (atI_nat (rng_at hj)) ?_
        o_readsAll
        refine br (fun h => ?_) (fun h => ?_)
        · o_readsAll
          refine g_ixL (hk.same e2).sq (atI_nat (rng_at hj)) ?_
          o_readsAll
          exact ⟨_, by rw [sm, if_pos h, ← Int.add_assoc]; rfl, rfl⟩
        · o_readsAll
          exact ⟨_, by rw [sm, if_neg h, Int.add_zero]; rfl, rfl⟩
      · rintro σ' G ⟨x10, rfl, hG⟩
        rw [hG]
        clear hG
        rw [Int.toNat_natCast]
        have hsum : c i + (if 0 < i then kn (i - 1) else 0) + sm (fun e => if fs e = (i : Int) then (L - 1) * kn e else 0) n + (if i = 0 ∧ ret = true then kn (n - 1) else 0) = c i + arr L n fs ret kn i := by
          rw [arr_law n0 hi]
          omega
        o_readsAll
        refine and_j (d := ret) (fun h Q' hQ' => ?_) (fun H3 e3 => ?_)
        · o_readsAll
          exact hQ' _ (Same.refl _)
        · have h3 := h2.same e3
          have h3' := h3
          unfold IL at h3'
          have e23 : Same H H3 := e2.trans e3
          have hend : IL (upd H3 r (.lst (rng i (stp L n fs ret c kn) ++ [V.int ((c i + arr L n fs ret kn i) / L)]))) r (i + 1) (stp L n fs ret c kn) := by
            show upd _ _ _ _ = _
            rw [upd_same, rng_succ]
            rfl
          refine brB (fun hb => ?_) (fun hb => ?_)
          · have hb' : i = 0 ∧ ret = true := by
              simp only [Bool.and_eq_true, decide_eq_true_eq] at hb
              exact ⟨by omega, hb.2⟩
            rw [if_pos hb'] at hsum
            o_readsAll
            refine g_ixL (hk.same e23).sq (at_ofN (j := n - 1) (by omega) (rng_at (by omega))) ?_
            o_readsAll
            rw [hsum]
            exact ⟨_, _, _, rfl, Eg.Same.put e23 fr, hend⟩
          · have hb' : ¬ (i = 0 ∧ ret = true) := by
              intro hh
              rw [hh.2, hh.1] at hb
              cases hb
            rw [if_neg hb', Int.add_zero] at hsum
            rw [hsum]
            o_readsAll
            exact ⟨_, _, _, rfl, Eg.Same.put e23 fr, hend⟩
    · o_readsAll
      refine g_ixL (hk.same e2).sq (at_ofN (j := i - 1) (by omega) (rng_at (by omega))) ?_
      exact hQ _ _ ⟨by rw [if_pos (by omega)], rfl⟩
    · o_readsAll
      exact hQ _ _ ⟨by rw [if_neg (by omega)], rfl⟩
  · rintro σ' H2 ⟨x8, x9, x10, rfl, e2, h2⟩
    rw [Int.toNat_natCast] at h2
    o_readsAll
    exact k r H2 fr e2 h2
theorem c_kstep {p cq kq : Addr} {L : Int} {n : Nat} {fs : Nat → Int} {ret : Bool} {c kn : Nat → Int} {H : Hp} {Q : VK} {E : XK} (hp : PlA H p L n fs ret) (hc : IL H cq n c) (hk : IL H kq n kn) (l2 : 2 ≤ L) (l6 : L ≤ 6) (n0 : 0 < n) (n4 : n ≤ 4) (ok : OkF fs) (kb : ∀ i, i < n → (kn i).natAbs < 2 ^ 3000) (k : ∀ q H', H q = none → Same H H' → IL H' q n (stp L n fs ret c kn) → Q (.ref q) H') : sp_kstep [.ref p, .ref cq, .ref kq] H Q E := ⟨p, cq, kq, L, n, fs, ret, c, kn, rfl, hp, hc, hk, l2, l6, n0, n4, ok, kb, k⟩
/-- rows of rounds -/
def RowsN (H : Hp) (rs : List Addr) (n : Nat) (f : Nat → Nat → Int) : Prop := ∀ (t : Nat) (q : Addr), rs[t]? = some q → IL H q n (f t)
theorem RowsN.same {H H' : Hp} {rs : List Addr} {n : Nat} {f : Nat → Nat → Int} (h : RowsN H rs n f) (e : Same H H') : RowsN H' rs n f := fun t q hq => (h t q hq).same e
theorem RowsN.snoc {H : Hp} {rs : List Addr} {n : Nat} {f : Nat → Nat → Int} {q : Addr} (h : RowsN H rs n f) (hq : IL H q n (f rs.length)) : RowsN H (rs ++ [q]) n f := fun t r hr => by
  by_cases ht : t < rs.length
  · rw [List.getElem?_append_left ht] at hr
    exact h t r hr
  · rw [List.getElem?_append_right (by omega)] at hr
    have : t - rs.length = 0 := by
      by_cases h : t - rs.length = 0
      · exact h
      · rw [List.getElem?_eq_none (by simp; omega)] at hr
        cases hr
    rw [this] at hr
    cases hr
    rw [show t = rs.length by omega]
    exact hq
theorem RowsN.put {H : Hp} {rs : List Addr} {n : Nat} {f : Nat → Nat → Int} {D : Addr} {o : HO} (h : RowsN H rs n f) (hD : ∀ q ∈ rs, q ≠ D) : RowsN (upd H D o) rs n f := fun t q hq => by
  show upd _ _ _ _ = _
  rw [upd_ne (hD q (List.mem_of_getElem? hq))]
  exact h t q hq
/-- what is settled about a ladder, a table -/
structure ROk (L : Int) (n : Nat) (fs c : Nat → Int) : Prop where
  l2 : 2 ≤ L
  l6 : L ≤ 6
  n0 : 0 < n
  n4 : n ≤ 4
  ok : OkF fs
  c0 : ∀ i, i < n → 0 ≤ c i
  cb : ∀ i, i < n → (c i).natAbs < 2 ^ 110
theorem ROk.bd {L : Int} {n : Nat} {fs c : Nat → Int} (o : ROk L n fs c) (ret : Bool) (late : Nat) {t a : Nat} (ht : t ≤ 310) (ha : a < n) : (rws L n fs ret c late t a).natAbs < 2 ^ 3000 := by
  have l2 := o.l2
  exact Nat.lt_of_lt_of_le (rws_bd (by omega) o.l6 o.n4 o.cb t a ha) (Nat.pow_le_pow_right (by decide) (by omega))
theorem stp_rws {L : Int} {n : Nat} {fs : Nat → Int} {ret : Bool} {c : Nat → Int} {late t : Nat} : stp L n fs ret c (rws L n fs ret c late (t - late)) = rws L n fs ret c late (t + 1) := (rws_succ t).symm
def sp_krows : Sp := fun vs H Q _ => ∃ (p cq : Addr) (m late : Nat) (L : Int) (n : Nat) (fs : Nat → Int) (ret : Bool) (c : Nat → Int), vs = [.ref p, .ref cq, .int (m : Int), .int (late : Int)] ∧ PlA H p L n fs ret ∧ IL H cq n c ∧ ROk L n fs c ∧ m ≤ 300 ∧ ∀ q rs H', H q = none → Same H H' → H' q = some (.lst (rs.map V.ref)) → rs.length = m + 1 → RowsN H' rs n (rws L n fs ret c late) → (∀ r ∈ rs, H r = none ∧ r ≠ q) → Q (.ref q) H'
theorem d_law_k29_rows (T : Txt K w mg Z) : Dfn P w K mg base 2 "_law_k29_rows" ["plain", "counts", "rounds", "late"] (sp_krows) := by
  obtain ⟨f, fd, F, hm, hb⟩ := T.f_law_k29_rows
  refine ⟨f, fd, F.ok sc_law_k29_rows (fun vs H Q E h => by first | (obtain ⟨rfl, _⟩ := h; rfl) | (obtain ⟨_, rfl, _⟩ := h; rfl) | (obtain ⟨_, _, rfl, _⟩ := h; rfl) | (obtain ⟨_, _, _, rfl, _⟩ := h; rfl) | (obtain ⟨_, _, _, _, rfl, _⟩ := h; rfl) | (obtain ⟨_, _, _, _, _, rfl, _⟩ := h; rfl) | (obtain ⟨_, _, _, _, _, _, rfl, _⟩ := h; rfl) | (obtain ⟨_, _, _, _, _, _, _, rfl, _⟩ := h; rfl) | (obtain ⟨_, _, _, _, _, _, _, _, rfl, _⟩ := h; rfl) | (obtain ⟨_, _, _, _, _, _, _, _, _, rfl, _⟩ := h; rfl) | (obtain ⟨_, _, _, _, _, _, _, _, _, _, rfl, _⟩ := h; rfl) | (obtain ⟨_, _, _, _, _, _, _, _, _, _, _, rfl, _⟩ := h; rfl) | (obtain ⟨_, _, _, _, _, _, _, _, _, _, _, _, rfl, _⟩ := h; rfl) | (obtain ⟨_, _, _, _, _, _, _, _, _, _, _, _, _, rfl, _⟩ := h; rfl) | (obtain ⟨_, _, _, _, _, _, _, _, _, _, _, _, _, _, rfl, _⟩ := h; rfl) | (obtain ⟨_, _, _, _, _, _, _, _, _, _, _, _, _, _, _, rfl, _⟩ := h; rfl) | (obtain ⟨_, _, _, _, _, _, _, _, _, _, _, _, _, _, _, _, rfl, _⟩ := h; rfl)) (fun cdv A outer s H vs Q E hr h => ?_), hm, F.kp, hb⟩
  obtain ⟨p, cq, m, late, L, n, fs, ret, c, rfl, hp, hc, o, hm, k⟩ := h
  have hc' := hc
  unfold IL at hc'
  have D_law_k29_step := d_law_k29_step (P := P) (base := base) T
  refine ⟨_, (pss_cons (ps_set (i := 4) sc_law_k29_rows.nd rfl (.inl rfl) (pe_lst (pa_cons (pe_lc (own := [("a", 6)]) (by rfl) sc_law_k29_rows.nd (pi_list (pv 1)) (blkOk_by (N := n_law_k29_rows) (sc := defScope st_law_k29_rows) (by decide +kernel)) (fun _ _ _ _ _ => (pg_name (i := 6) sc_law_k29_rows.nd rfl (.inl rfl))) (fun _ _ _ _ _ => pts_nil) (fun _ _ _ _ _ => pe_int)) pa_nil)))
      (pss_cons (ps_for PassesOwn.never rfl (pi_range1 (by rfl) T.b_range (pa_cons (pv 2) pa_nil)) (pg_name (i := 5) sc_law_k29_rows.nd rfl (.inl rfl))
        (pss_one (ps_expr (pe_bm PySem.F.plainAttrs_list PySem.F.slot_list_append PySem.F.type_list_append mt_append (pv 4) (pa_cons (pe_dfn D_law_k29_step (hr.mono (by decide)) (by rfl) (pa_cons (pv 0) (pa_cons (pv 1) (pa_cons (pe_ix ix_seq (pv 4) (pe_callB (call_uMax2 rfl) (by rfl) T.b_max bt_max (pa_cons (pe_op op_sub (pv 5) (pv 3)) (pa_cons pe_int pa_nil))) (fun _ _ => rfl)) pa_nil)))) pa_nil)))))
      (pss_one (ps_ret (pv 4))))), ?_⟩
  try dsimp only [cxOf, Cx.nox, Cx.wish]
  show (_ : TS) _ [some _, some _, some _, some _, none, none, none] _
  o_readsAll
  refine l_lstP (xs := rng n c) (fun i => .int 0) (.of hc') (fun x => rfl) (fun D i x H' hx hD e hl => ?_) fun z H1 fz e1 hz => ?_
  · o_readsAll
    exact g_itemP e hl hD (by rw [sizeLine_eq]; have := (List.getElem?_eq_some_iff.mp hx).1; rw [rng_len] at this; have := o.n4; omega) rfl
  · rw [rng_len] at hz
    have hz0 : IL H1 z n (rws L n fs ret c late 0) := by rw [rws_zero]; exact hz
    o_readsAll
    rename_i rq H2 frq e2 hrq N hN
    have nz : z ≠ rq := ne_of_none hz frq
    refine f_rng (fun i σ' H' => ∃ (rs : List Addr) (x5 : Option V), σ' = [some (.ref p), some (.ref cq), some (.int (m : Int)), some (.int (late : Int)), some (.ref rq), x5, none] ∧ Same H H' ∧ H' rq = some (.lst (rs.map V.ref)) ∧ rs.length = i + 1 ∧ RowsN H' rs n (rws L n fs ret c late) ∧ ∀ r ∈ rs, H r = none ∧ r ≠ rq) ⟨[z], _, rfl, e1.trans e2, hrq, rfl, fun t q hq => ?_, fun r hr => ?_⟩ ?_ ?_
    · match t, hq with
      | 0, hq => cases hq; exact hz0.same e2
      | t + 1, hq => cases hq
    · rw [List.mem_singleton.mp hr]
      exact ⟨fz, nz⟩
    · rintro i σ' H3 hi ⟨rs, x5, rfl, e3, hrq3, hrl, hrs, hfr⟩
      rw [Int.toNat_natCast] at hi
      rw [Int.zero_add]
      obtain ⟨q, hq⟩ : ∃ q, rs[i - late]? = some q := ⟨_, List.getElem?_eq_getElem (by omega)⟩
      have hsz : (rs.map V.ref).length < sizeLine := by rw [List.length_map, sizeLine_eq]; omega
      o_readsAll
      refine g_ixL (.of hrq3) (at_ofN (j := i - late) (v := .ref q) (by split <;> omega) (by rw [List.getElem?_map, hq]; rfl)) ?_
      o_readsAll
      refine c_kstep (hp.same e3) (hc.same e3) (hrs _ _ hq) o.l2 o.l6 o.n0 o.n4 o.ok (fun a ha => o.bd ret late (by omega) ha) fun r H4 fr4 e4 hr4 => ?_
      rw [stp_rws] at hr4
      have hrq4 := e4 _ _ hrq3
      have nr : r ≠ rq := (ne_of_none hrq3 fr4).symm
      o_readsAll
      refine ⟨rs ++ [r], _, rfl, Eg.Same.put (e3.trans e4) (e1.free frq), by rw [upd_same, List.map_append]; rfl, by rw [List.length_append, hrl]; rfl, ?_, fun x hx => ?_⟩
      · refine RowsN.put ((hrs.same e4).snoc (by rw [hrl]; exact hr4)) fun x hx => ?_
        rcases List.mem_append.mp hx with h | h
        · exact (hfr x h).2
        · rw [List.mem_singleton.mp h]; exact nr
      · rcases List.mem_append.mp hx with h | h
        · exact hfr x h
        · rw [List.mem_singleton.mp h]; exact ⟨e3.free fr4, nr⟩
    · rintro σ' H3 ⟨rs, x5, rfl, e3, hrq3, hrl, hrs, hfr⟩
      rw [Int.toNat_natCast] at hrl
      o_readsAll
      exact k rq rs H3 (e1.free frq) e3 hrq3 hrl hrs hfr
theorem c_krows {p cq : Addr} {m late : Nat} {L : Int} {n : Nat} {fs : Nat → Int} {ret : Bool} {c : Nat → Int} {H : Hp} {Q : VK} {E : XK} (hp : PlA H p L n fs ret) (hc : IL H cq n c) (o : ROk L n fs c) (hm : m ≤ 300) (k : ∀ q rs H', H q = none → Same H H' → H' q = some (.lst (rs.map V.ref)) → rs.length = m + 1 → RowsN H' rs n (rws L n fs ret c late) → (∀ r ∈ rs, H r = none ∧ r ≠ q) → Q (.ref q) H') : sp_krows [.ref p, .ref cq, .int (m : Int), .int (late : Int)] H Q E := ⟨p, cq, m, late, L, n, fs, ret, c, rfl, hp, hc, o, hm, k⟩
/-- the program's rows -/
def sp_nrow (C CL : Addr) : Sp := fun vs H Q _ => ∃ (t kq : Addr) (L : Int) (n : Nat) (fs : Nat → Int) (ret : Bool) (c kn : Nat → Int), vs = [.ref t, .ref kq] ∧ TabAt C CL H t L n fs ret c ∧ IL H kq n kn ∧ 2 ≤ L ∧ L ≤ 6 ∧ 0 < n ∧ n ≤ 4 ∧ OkF fs ∧ (∀ i, i < n → (kn i).natAbs < 2 ^ 3000) ∧ ∀ q H', H q = none → Same H H' → IL H' q n (stp L n fs ret c kn) → Q (.ref q) H'
theorem d_next_row (T : Txt K w mg Z) : Dfn P w K mg base 2 "next_row" ["table", "known"] (sp_nrow Z.a_Table Z.a_Ladder) := by
  obtain ⟨f, fd, F, hm, hb⟩ := T.f_next_row
  refine ⟨f, fd, F.ok sc_next_row (fun vs H Q E h => by first | (obtain ⟨rfl, _⟩ := h; rfl) | (obtain ⟨_, rfl, _⟩ := h; rfl) | (obtain ⟨_, _, rfl, _⟩ := h; rfl) | (obtain ⟨_, _, _, rfl, _⟩ := h; rfl) | (obtain ⟨_, _, _, _, rfl, _⟩ := h; rfl) | (obtain ⟨_, _, _, _, _, rfl, _⟩ := h; rfl) | (obtain ⟨_, _, _, _, _, _, rfl, _⟩ := h; rfl) | (obtain ⟨_, _, _, _, _, _, _, rfl, _⟩ := h; rfl) | (obtain ⟨_, _, _, _, _, _, _, _, rfl, _⟩ := h; rfl) | (obtain ⟨_, _, _, _, _, _, _, _, _, rfl, _⟩ := h; rfl) | (obtain ⟨_, _, _, _, _, _, _, _, _, _, rfl, _⟩ := h; rfl) | (obtain ⟨_, _, _, _, _, _, _, _, _, _, _, rfl, _⟩ := h; rfl) | (obtain ⟨_, _, _, _, _, _, _, _, _, _, _, _, rfl, _⟩ := h; rfl) | (obtain ⟨_, _, _, _, _, _, _, _, _, _, _, _, _, rfl, _⟩ := h; rfl) | (obtain ⟨_, _, _, _, _, _, _, _, _, _, _, _, _, _, rfl, _⟩ := h; rfl) | (obtain ⟨_, _, _, _, _, _, _, _, _, _, _, _, _, _, _, rfl, _⟩ := h; rfl) | (obtain ⟨_, _, _, _, _, _, _, _, _, _, _, _, _, _, _, _, rfl, _⟩ := h; rfl)) (fun cdv A outer s H vs Q E hr h => ?_), hm, F.kp, hb⟩
  obtain ⟨t, kq, L, n, fs, ret, c, kn, rfl, ht, hk, l2, l6, n0, n4, ok, kb, k⟩ := h
  have ht' := ht
  obtain ⟨dx, l, cl, i1, _, hl⟩ := ht'
  have hk' := hk
  unfold IL at hk'
  have D_Table_ladder := d_Table_ladder (P := P) (base := base) T
  have D_Ladder_lanes := d_Ladder_lanes (P := P) (base := base) T
  have D_Ladder_falls := d_Ladder_falls (P := P) (base := base) T
  have D_Table_counts := d_Table_counts (P := P) (base := base) T
  have D_Ladder_returns := d_Ladder_returns (P := P) (base := base) T
  refine ⟨_, (pss_cons (ps_set (i := 2) sc_next_row.nd rfl (.inl rfl) (pe_mth0 D_Table_ladder (hr.mono (by decide)) (pv 0)))
      (pss_cons (ps_set (i := 3) sc_next_row.nd rfl (.inr rfl) (pe_mth0 D_Ladder_lanes (hr.mono (by decide)) (pv 2)))
      (pss_cons (ps_set (i := 4) sc_next_row.nd rfl (.inl rfl) (pe_mth0 D_Ladder_falls (hr.mono (by decide)) (pv 2)))
      (pss_cons (ps_set (i := 5) sc_next_row.nd rfl (.inl rfl) (pe_mth0 D_Table_counts (hr.mono (by decide)) (pv 0)))
      (pss_cons (ps_for PassesOwn.never rfl (pi_enum (by rfl) T.b_enumerate (pa_cons (pv 1) pa_nil)) (pg_tup (by rfl) (pgs_cons (pg_name (i := 6) sc_next_row.nd rfl (.inl rfl)) (pgs_cons (pg_name (i := 7) sc_next_row.nd rfl (.inl rfl)) pgs_nil)))
        (pss_cons (ps_if (pt_cmpR op_lt (pe_op op_uAdd (pv 6) pe_int) (pe_callB call_uLen (by rfl) T.b_len bt_len (pa_cons (pv 5) pa_nil)) (nomark _)) (pss_one (ps_asg (pe_op op_uAdd (pe_ix ix_seq (pv 5) (pe_op op_uAdd (pv 6) pe_int) (fun _ _ => rfl)) (pv 7)) (pg_sub (pv 5) (pe_op op_uAdd (pv 6) pe_int) set_list))) (pss_one (ps_if (pt_u (pe_mth0 D_Ladder_returns (hr.mono (by decide)) (pv 2))) (pss_one (ps_asg (pe_op op_uAdd (pe_ix ix_seq (pv 5) pe_int (fun _ _ => rfl)) (pv 7)) (pg_sub (pv 5) pe_int set_list))) pss_nil)))
      (pss_one (ps_if (pt_cmpR op_ge (pe_ix ix_seq (pv 4) (pv 6) (fun _ _ => rfl)) pe_int (nomark _)) (pss_one (ps_asg (pe_op op_uAdd (pe_ix ix_seq (pv 5) (pe_ix ix_seq (pv 4) (pv 6) (fun _ _ => rfl)) (fun _ _ => rfl)) (pe_op op_uMul (pe_op op_sub (pv 3) pe_int) (pv 7))) (pg_sub (pv 5) (pe_ix ix_seq (pv 4) (pv 6) (fun _ _ => rfl)) set_list))) pss_nil))))
      (pss_one (ps_ret (pe_lc (own := [("many", 8)]) (by rfl) sc_next_row.nd (pi_list (pv 5)) (blkOk_by (N := n_next_row) (sc := defScope st_next_row) (by decide +kernel)) (fun _ _ _ _ _ => (pg_name (i := 8) sc_next_row.nd rfl (.inl rfl))) (fun _ _ _ _ _ => pts_nil) (fun _ _ _ _ _ => (pe_op op_uDiv (pv 8) (pv 3))))))))))), ?_⟩
  try dsimp only [cxOf, Cx.nox, Cx.wish]
  show (_ : TS) _ [some _, some _, none, none, none, none, none, none, none] _
  o_readsAll
  refine c_tlad ht fun l hl => ?_
  have hl' := hl
  obtain ⟨ldx, lfl, llt, lhh, lwl, lps, a1, _, _, _, _, _, _⟩ := hl'
  o_readsAll
  refine c_lnum hl ?_
  o_readsAll
  refine c_lfalls hl fun fl H1 ffl e1 hfl => ?_
  have i11 := e1 _ _ i1
  o_readsAll
  refine c_tcnt (ht.same e1) fun cm H2 fcm e2 hcm => ?_
  have e02 : Same H H2 := e1.trans e2
  have hk2 := e02 _ _ hk'
  have hfl2 := hfl.same e2
  have fcm0 : H cm = none := e1.free fcm
  have nfl : fl ≠ cm := ne_of_none hfl fcm
  have a12 := e02 _ _ a1
  have hl2 := hl.same e02
  o_readsAll
  refine f_enum (xs := rng n kn) (fun j σ' H' => ∃ (x6 x7 : Option V), σ' = [some (.ref t), some (.ref kq), some (.ref l), some (.int L), some (.ref fl), some (.ref cm), x6, x7, none] ∧ Off cm H2 H' ∧ IL H' cm n (fun a => c a + sm (fun e => wg L n fs ret a e * kn e) j)) ⟨_, _, rfl, off_refl _ _, by unfold IL at hcm ⊢; rw [hcm]; congr 2; exact rng_congr fun a ha => (Int.add_zero _).symm⟩ ?_ ?_ ?_
  · rintro j σ' H' hj ⟨x6, x7, rfl, o3, h3⟩
    exact .of (o3 _ _ (ne_of_none hk' fcm0) hk2)
  · rintro j y σ' H3 T1 H4 hy ⟨x6, x7, rfl, o3, h3⟩ hT e4 h4
    have hj : j < n := by have := (List.getElem?_eq_some_iff.mp hy).1; rw [rng_len] at this; exact this
    rw [rng_at hj] at hy
    cases hy
    have h34 := h3.same e4
    have h34' := h34
    unfold IL at h34'
    have nT : T1 ≠ cm := (ne_of_none h3 hT).symm
    have hfl4 : IL H4 fl n fs := e4 _ _ (o3 _ _ nfl hfl2)
    have a14 := e4 _ _ (o3 _ _ (ne_of_none a1 fcm0) a12)
    have hl4 : LadAt Z.a_Ladder H4 l L n fs ret := by
      have mv : ∀ {x : Addr} {u : HO}, H x = some u → H4 x = some u := fun h => e4 _ _ (o3 _ _ (ne_of_none h fcm0) (e02 _ _ h))
      obtain ⟨b1, b2, b3, b4, b5, b6, d1, d2, d3, d4, d5, d6, d7⟩ := hl
      exact ⟨b1, b2, b3, b4, b5, b6, mv d1, mv d2, mv d3, d4, fun a q hq => mv (d5 a q hq), mv d6, mv d7⟩
    generalize hF : (fun a => c a + sm (fun e => wg L n fs ret a e * kn e) j) = F at *
    have o24 : Off cm H2 H4 := o3.same e4
    have okj := ok j
    o_readsAll
    rw [rng_len]
    refine jnS (fun (σ' : L2.St) (H' : Hp) => σ' = [some (.ref t), some (.ref kq), some (.ref l), some (.int L), some (.ref fl), some (.ref cm), some (.int (j : Int)), some (.int (kn j)), none] ∧ Off cm H2 H' ∧ IL H' cm n (fun a => F a + ((if j + 1 = a then 1 else 0) + (if j + 1 = n ∧ ret = true ∧ a = 0 then 1 else 0)) * kn j) ∧ IL H' fl n fs) ?_ (fun N hN => br (fun h => ?_) (fun h => ?_))
    · rintro σ' H5 ⟨rfl, o5, h5, hfl5⟩
      have hfin : ∀ a, a < n → F a + ((if j + 1 = a then 1 else 0) + (if j + 1 = n ∧ ret = true ∧ a = 0 then 1 else 0)) * kn j + (if fs j = (a : Int) then (L - 1) * kn j else 0) = c a + sm (fun e => wg L n fs ret a e * kn e) (j + 1) := fun a ha => by
        rw [sm, ← Int.add_assoc, show c a + sm (fun e => wg L n fs ret a e * kn e) j = F a from congrFun hF a]
        unfold wg
        rw [Int.add_mul ((if j + 1 = a then (1 : Int) else 0) + (if j + 1 = n ∧ ret = true ∧ a = 0 then (1 : Int) else 0))]
        have : (if fs j = (a : Int) then (L - 1) * kn j else 0) = (if fs j = (a : Int) then L - 1 else 0) * kn j := by split <;> simp
        rw [this]
        omega
      o_readsAll
      refine g_ixL hfl5.sq (atI_nat (rng_at hj)) ?_
      o_readsAll
      refine br (fun h => ?_) (fun h => ?_)
      · obtain ⟨d, hd⟩ : ∃ d : Nat, fs j = (d : Int) := ⟨(fs j).toNat, by omega⟩
        have hdn : d < n := by omega
        o_readsAll
        refine g_ixL hfl5.sq (atI_nat (rng_at hj)) ?_
        rw [hd]
        refine g_ixL h5.sq (atI_nat (rng_at hdn)) ?_
        o_readsAll
        refine g_ixL hfl5.sq (atI_nat (rng_at hj)) ?_
        rw [hd]
        refine g_setL h5 (by rw [rng_len]; exact ixN_at hdn) (rng_set n d _ _) ?_
        refine ⟨_, _, rfl, o5.upd, ?_⟩
        show upd _ _ _ _ = _
        rw [upd_same]
        congr 2
        refine rng_congr fun a ha => ?_
        rw [← hfin a ha, hd]
        by_cases had : a = d
        · subst had
          rw [if_pos rfl, if_pos rfl]
        · rw [if_neg had, if_neg (show ¬ (d : Int) = (a : Int) by omega), Int.add_zero]
      · o_readsAll
        refine ⟨_, _, rfl, o5, ?_⟩
        unfold IL at h5 ⊢
        rw [h5]
        congr 2
        refine rng_congr fun a ha => ?_
        rw [← hfin a ha, if_neg (show ¬ fs j = (a : Int) by omega), Int.add_zero]
    · have hj1 : j + 1 < n := by omega
      o_readsAll
      refine g_ixL h34.sq (at_ofN (j := j + 1) (by omega) (rng_at hj1)) ?_
      o_readsAll
      refine g_setL h34 (by rw [rng_len, show (j : Int) + 1 = ((j + 1 : Nat) : Int) from rfl]; exact ixN_at hj1) (rng_set n (j + 1) _ _) ?_
      have nfl' : fl ≠ cm := nfl
      refine hN _ _ ⟨rfl, o24.upd, ?_, by unfold IL; rw [upd_ne nfl]; exact hfl4⟩
      show upd _ _ _ _ = _
      rw [upd_same]
      congr 2
      refine rng_congr fun a ha => ?_
      rw [if_neg (show ¬ (j + 1 = n ∧ ret = true ∧ a = 0) from fun z => by omega), Int.add_zero]
      by_cases had : a = j + 1
      · rw [if_pos had, if_pos had.symm, had]
        simp
      · rw [if_neg had, if_neg (fun z => had z.symm)]
        simp
    · have hj1 : j + 1 = n := by omega
      have hF0 : ∀ a, a < n → (if j + 1 = a then (1 : Int) else 0) = 0 := fun a ha => if_neg (by omega)
      o_readsAll
      refine c_lnum hl4 ?_
      o_readsAll
      refine brB (fun hr1 => ?_) (fun hr1 => ?_)
      · o_readsAll
        refine g_ixL h34.sq (atI_nat (j := 0) (rng_at n0)) ?_
        o_readsAll
        refine g_setL h34 (by rw [rng_len]; exact ixN_at (j := 0) n0) (rng_set n 0 _ _) ?_
        refine hN _ _ ⟨rfl, o24.upd, ?_, by unfold IL; rw [upd_ne nfl]; exact hfl4⟩
        show upd _ _ _ _ = _
        rw [upd_same]
        congr 2
        refine rng_congr fun a ha => ?_
        rw [hF0 a ha, Int.zero_add]
        by_cases had : a = 0
        · rw [if_pos had, if_pos ⟨hj1, hr1, had⟩, had]
          simp
        · rw [if_neg had, if_neg (fun z => had z.2.2)]
          simp
      · o_readsAll
        refine ⟨rfl, o24, ?_, hfl4⟩
        unfold IL at h34 ⊢
        rw [h34]
        congr 2
        refine rng_congr fun a ha => ?_
        rw [hF0 a ha, if_neg (fun z => by rw [hr1] at z; exact nomatch z.2.1)]
        simp
  · rintro σ' H3 ⟨x6, x7, rfl, o3, h3⟩
    rw [rng_len] at h3
    have h3' := h3
    unfold IL at h3'
    have e03 : Same H H3 := fun b u q => o3 b u (ne_of_none q fcm0) (e02 b u q)
    o_readsAll
    refine l_lstP (xs := rng n _) (fun i => .int (stp L n fs ret c kn i)) (.of h3') (fun x => rfl) (fun D i x H' hx hD e hl => ?_) fun z H4 fz e4 hz => ?_
    · have hi := (List.getElem?_eq_some_iff.mp hx).1
      rw [rng_len] at hi
      rw [rng_at hi] at hx
      cases hx
      o_readsAll
      exact g_itemP e hl hD (by rw [sizeLine_eq]; omega) rfl
    · rw [rng_len] at hz
      exact k z H4 (e03.free fz) (e03.trans e4) hz
end
end L29

namespace L29
set_option exponentiation.threshold 9000
open SX Ld Rd
section
variable {P : Program} {w : World} {K : PySem.W.Frag} {mg : Str → Option Value} {base : Heap} {Z : Ad}
theorem atI_end {α : Type} (ys : List α) (v : α) : atI (ys ++ [v]) (-1) = some v := by
  unfold atI ixN
  rw [if_neg (by omega), if_pos (by simp; omega)]
  show (ys ++ [v])[(-1 + ((ys ++ [v]).length : Int)).toNat]? = some v
  rw [List.length_append, List.length_singleton, show (-1 + ((ys.length + 1 : Nat) : Int)).toNat = ys.length by omega, List.getElem?_append_right (Nat.le_refl _), Nat.sub_self]
  rfl
theorem RowsN.off {H H' : Hp} {rs : List Addr} {n : Nat} {f : Nat → Nat → Int} {D : Addr} (h : RowsN H rs n f) (hD : ∀ q ∈ rs, q ≠ D) (o : Off D H H') : RowsN H' rs n f := fun t q hq => o _ _ (hD q (List.mem_of_getElem? hq)) (h t q hq)
def sp_grow (C CL : Addr) : Sp := fun vs H Q _ => ∃ (t rq : Addr) (late m : Nat) (rs : List Addr) (L : Int) (n : Nat) (fs : Nat → Int) (ret : Bool) (c : Nat → Int), vs = [.ref t, .ref rq, .int (late : Int)] ∧ TabAt C CL H t L n fs ret c ∧ ROk L n fs c ∧ H rq = some (.lst (rs.map V.ref)) ∧ rs.length = m + 1 ∧ m ≤ 300 ∧ RowsN H rs n (rws L n fs ret c late) ∧ (∀ q ∈ rs, q ≠ rq) ∧ ∀ r H', H r = none → Off rq H H' → H' rq = some (.lst ((rs ++ [r]).map V.ref)) → RowsN H' (rs ++ [r]) n (rws L n fs ret c late) → Q .non H'
theorem d_grow (T : Txt K w mg Z) : Dfn P w K mg base 3 "grow" ["table", "rows", "late"] (sp_grow Z.a_Table Z.a_Ladder) := by
  obtain ⟨f, fd, F, hm, hb⟩ := T.f_grow
  refine ⟨f, fd, F.ok sc_grow (fun vs H Q E h => by first | (obtain ⟨rfl, _⟩ := h; rfl) | (obtain ⟨_, rfl, _⟩ := h; rfl) | (obtain ⟨_, _, rfl, _⟩ := h; rfl) | (obtain ⟨_, _, _, rfl, _⟩ := h; rfl) | (obtain ⟨_, _, _, _, rfl, _⟩ := h; rfl) | (obtain ⟨_, _, _, _, _, rfl, _⟩ := h; rfl) | (obtain ⟨_, _, _, _, _, _, rfl, _⟩ := h; rfl) | (obtain ⟨_, _, _, _, _, _, _, rfl, _⟩ := h; rfl) | (obtain ⟨_, _, _, _, _, _, _, _, rfl, _⟩ := h; rfl) | (obtain ⟨_, _, _, _, _, _, _, _, _, rfl, _⟩ := h; rfl) | (obtain ⟨_, _, _, _, _, _, _, _, _, _, rfl, _⟩ := h; rfl) | (obtain ⟨_, _, _, _, _, _, _, _, _, _, _, rfl, _⟩ := h; rfl) | (obtain ⟨_, _, _, _, _, _, _, _, _, _, _, _, rfl, _⟩ := h; rfl) | (obtain ⟨_, _, _, _, _, _, _, _, _, _, _, _, _, rfl, _⟩ := h; rfl) | (obtain ⟨_, _, _, _, _, _, _, _, _, _, _, _, _, _, rfl, _⟩ := h; rfl) | (obtain ⟨_, _, _, _, _, _, _, _, _, _, _, _, _, _, _, rfl, _⟩ := h; rfl) | (obtain ⟨_, _, _, _, _, _, _, _, _, _, _, _, _, _, _, _, rfl, _⟩ := h; rfl)) (fun cdv A outer s H vs Q E hr h => ?_), hm, F.kp, hb⟩
  obtain ⟨t, rq, late, m, rs, L, n, fs, ret, c, rfl, ht, o, hrq, hrl, hm, hrs, hne, k⟩ := h
  have D_next_row := d_next_row (P := P) (base := base) T
  refine ⟨_, (pss_cons (ps_set (i := 3) sc_grow.nd rfl (.inl rfl) (pe_op op_sub (pe_op op_sub (pe_callB call_uLen (by rfl) T.b_len bt_len (pa_cons (pv 1) pa_nil)) pe_int) (pv 2)))
      (pss_one (ps_expr (pe_bm PySem.F.plainAttrs_list PySem.F.slot_list_append PySem.F.type_list_append mt_append (pv 1) (pa_cons (pe_dfn D_next_row (hr.mono (by decide)) (by rfl) (pa_cons (pv 0) (pa_cons (pe_ix ix_seq (pv 1) (pe_callB (call_uMax2 rfl) (by rfl) T.b_max bt_max (pa_cons (pv 3) (pa_cons pe_int pa_nil))) (fun _ _ => rfl)) pa_nil))) pa_nil))))), ?_⟩
  try dsimp only [cxOf, Cx.nox, Cx.wish]
  show (_ : TS) _ [some _, some _, some _, none] _
  o_readsAll
  rw [List.length_map, hrl]
  obtain ⟨q, hq⟩ : ∃ q, rs[m - late]? = some q := ⟨_, List.getElem?_eq_getElem (by omega)⟩
  have hsz : (rs.map V.ref).length < sizeLine := by rw [List.length_map, sizeLine_eq]; omega
  refine g_ixL (.of hrq) (at_ofN (j := m - late) (v := .ref q) (by split <;> omega) (by rw [List.getElem?_map, hq]; rfl)) ?_
  o_readsAll
  refine ⟨t, q, L, n, fs, ret, c, _, rfl, ht, hrs _ _ hq, o.l2, o.l6, o.n0, o.n4, o.ok, fun a ha => o.bd ret late (by omega) ha, fun r H1 fr e1 hr1 => ?_⟩
  rw [stp_rws] at hr1
  have hrq1 := e1 _ _ hrq
  have nr : r ≠ rq := (ne_of_none hrq fr).symm
  o_readsAll
  refine k r _ fr (off_of e1).upd (by rw [upd_same, List.map_append]; rfl) (RowsN.put ((hrs.same e1).snoc (by rw [hrl]; exact hr1)) fun x hx => ?_)
  rcases List.mem_append.mp hx with h | h
  · exact hne x h
  · rw [List.mem_singleton.mp h]; exact nr
theorem c_grow {C CL t rq : Addr} {late m : Nat} {rs : List Addr} {L : Int} {n : Nat} {fs : Nat → Int} {ret : Bool} {c : Nat → Int} {H : Hp} {Q : VK} {E : XK} (ht : TabAt C CL H t L n fs ret c) (o : ROk L n fs c) (hrq : H rq = some (.lst (rs.map V.ref))) (hrl : rs.length = m + 1) (hm : m ≤ 300) (hrs : RowsN H rs n (rws L n fs ret c late)) (hne : ∀ q ∈ rs, q ≠ rq) (k : ∀ r H', H r = none → Off rq H H' → H' rq = some (.lst ((rs ++ [r]).map V.ref)) → RowsN H' (rs ++ [r]) n (rws L n fs ret c late) → Q .non H') : sp_grow C CL [.ref t, .ref rq, .int (late : Int)] H Q E := ⟨t, rq, late, m, rs, L, n, fs, ret, c, rfl, ht, o, hrq, hrl, hm, hrs, hne, k⟩
def sp_rrows (Z : Ad) : Sp := fun vs H Q E => ∃ (t : Addr) (m late : Nat) (L : Int) (n : Nat) (fs : Nat → Int) (ret : Bool) (c : Nat → Int), vs = [.ref t, .int (m : Int), .int (late : Int)] ∧ TabAt Z.a_Table Z.a_Ladder H t L n fs ret c ∧ ROk L n fs c ∧ (m ≤ 300 → late ≤ 6 → ∀ q rs H', H q = none → Same H H' → H' q = some (.lst (rs.map V.ref)) → rs.length = m → RowsN H' rs n (fun t => rws L n fs ret c late (t + 1)) → (∀ r ∈ rs, H r = none ∧ r ≠ q) → Q (.ref q) H') ∧ (300 < m → RaiseI Z.a_TooMany "what" (.str "rounds") H E) ∧ (m ≤ 300 → 6 < late → RaiseI Z.a_TooMany "what" (.str "late") H E)
theorem d_round_rows (T : Txt K w mg Z) : DfnX P w K mg base 4 "round_rows" ["table", "rounds", "late"] (sp_rrows Z) := by
  obtain ⟨f, fd, F, hm, hb⟩ := T.f_round_rows
  refine ⟨f, fd, F.okX sc_round_rows (fun vs H Q E h => by first | (obtain ⟨rfl, _⟩ := h; rfl) | (obtain ⟨_, rfl, _⟩ := h; rfl) | (obtain ⟨_, _, rfl, _⟩ := h; rfl) | (obtain ⟨_, _, _, rfl, _⟩ := h; rfl) | (obtain ⟨_, _, _, _, rfl, _⟩ := h; rfl) | (obtain ⟨_, _, _, _, _, rfl, _⟩ := h; rfl) | (obtain ⟨_, _, _, _, _, _, rfl, _⟩ := h; rfl) | (obtain ⟨_, _, _, _, _, _, _, rfl, _⟩ := h; rfl) | (obtain ⟨_, _, _, _, _, _, _, _, rfl, _⟩ := h; rfl) | (obtain ⟨_, _, _, _, _, _, _, _, _, rfl, _⟩ := h; rfl) | (obtain ⟨_, _, _, _, _, _, _, _, _, _, rfl, _⟩ := h; rfl) | (obtain ⟨_, _, _, _, _, _, _, _, _, _, _, rfl, _⟩ := h; rfl) | (obtain ⟨_, _, _, _, _, _, _, _, _, _, _, _, rfl, _⟩ := h; rfl) | (obtain ⟨_, _, _, _, _, _, _, _, _, _, _, _, _, rfl, _⟩ := h; rfl) | (obtain ⟨_, _, _, _, _, _, _, _, _, _, _, _, _, _, rfl, _⟩ := h; rfl) | (obtain ⟨_, _, _, _, _, _, _, _, _, _, _, _, _, _, _, rfl, _⟩ := h; rfl) | (obtain ⟨_, _, _, _, _, _, _, _, _, _, _, _, _, _, _, _, rfl, _⟩ := h; rfl)) (fun cdv A outer s H vs Q E hr h => ?_), hm, F.kp, hb⟩
  obtain ⟨t, m, late, L, n, fs, ret, c, rfl, ht, o, k1, k2, k3⟩ := h
  have kl1 := T.k_LIMITS_rounds
  have kl2 := T.k_LIMITS_late
  have ht' := ht
  obtain ⟨dx, l, cl, i1, _, _⟩ := ht'
  have D_bound := d_bound (P := P) (base := base) T
  have D_grow := d_grow (P := P) (base := base) T
  have D_Table_counts := d_Table_counts (P := P) (base := base) T
  refine ⟨_, (pss_cons (ps_expr (pe_dfnS D_bound (hr.mono (by decide)) (by rfl) (takes_of rfl rfl rfl rfl) (pa_cons pe_str (pa_cons (pv 1) pa_nil))))
      (pss_cons (ps_expr (pe_dfnS D_bound (hr.mono (by decide)) (by rfl) (takes_of rfl rfl rfl rfl) (pa_cons pe_str (pa_cons (pv 2) pa_nil))))
      (pss_cons (ps_set (i := 3) sc_round_rows.nd rfl (.inl rfl) (pe_lst (pa_cons (pe_lc (own := [("_", 4)]) (by rfl) sc_round_rows.nd (pi_list (pe_mth0 D_Table_counts (hr.mono (by decide)) (pv 0))) (blkOk_by (N := n_round_rows) (sc := defScope st_round_rows) (by decide +kernel)) (fun _ _ _ _ _ => (pg_name (i := 4) sc_round_rows.nd rfl (.inl rfl))) (fun _ _ _ _ _ => pts_nil) (fun _ _ _ _ _ => pe_int)) pa_nil)))
      (pss_cons (ps_for (passes_of rfl) rfl (pi_range1 (by rfl) T.b_range (pa_cons (pv 1) pa_nil)) (pg_name (i := 4) sc_round_rows.nd rfl (.inl rfl))
        (pss_one (ps_expr (pe_dfn D_grow (hr.mono (by decide)) (by rfl) (pa_cons (pv 0) (pa_cons (pv 3) (pa_cons (pv 2) pa_nil)))))))
      (pss_one (ps_ret (pe_slice sl_u (pv 3) (po_some pe_int) po_none))))))), ?_⟩
  try dsimp only [cxOf, Cx.nox, Cx.wish]
  show (_ : TS) _ [some _, some _, some _, none, none] _
  o_readsAll
  refine c_bound kl1 T.m_TOLD_rounds (fun h1 => ?_) (fun h1 => k2 (by omega))
  o_readsAll
  refine c_bound kl2 T.m_TOLD_late (fun h2 => ?_) (fun h2 => k3 (by omega) (by omega))
  o_readsAll
  refine c_tcnt ht fun cm H1 fcm e1 hcm => ?_
  have hcm' := hcm
  unfold IL at hcm'
  o_readsAll
  refine l_lstP (xs := rng n c) (fun i => .int 0) (.of hcm') (fun x => rfl) (fun D i x H' hx hD e hl => ?_) fun z H2 fz e2 hz => ?_
  · o_readsAll
    exact g_itemP e hl hD (by rw [sizeLine_eq]; have := (List.getElem?_eq_some_iff.mp hx).1; rw [rng_len] at this; have := o.n4; omega) rfl
  · rw [rng_len] at hz
    have hz0 : IL H2 z n (rws L n fs ret c late 0) := by rw [rws_zero]; exact hz
    have e02 : Same H H2 := e1.trans e2
    o_readsAll
    rename_i rq H3 frq e3 hrq N hN
    have nz : z ≠ rq := ne_of_none hz frq
    refine f_rng (fun i σ' H' => ∃ (rs : List Addr) (x4 : Option V), σ' = [some (.ref t), some (.int (m : Int)), some (.int (late : Int)), some (.ref rq), x4] ∧ Same H H' ∧ H' rq = some (.lst (rs.map V.ref)) ∧ rs.length = i + 1 ∧ RowsN H' rs n (rws L n fs ret c late) ∧ ∀ r ∈ rs, H r = none ∧ r ≠ rq) ⟨[z], _, rfl, e02.trans e3, hrq, rfl, fun t q hq => ?_, fun r hr => ?_⟩ ?_ ?_
    · match t, hq with
      | 0, hq => cases hq; exact hz0.same e3
      | t + 1, hq => cases hq
    · rw [List.mem_singleton.mp hr]
      exact ⟨e1.free fz, nz⟩
    · rintro i σ' H4 hi ⟨rs, x4, rfl, e4, hrq4, hrl, hrs, hfr⟩
      rw [Int.toNat_natCast] at hi
      o_readsAll
      refine c_grow (ht.same e4) o hrq4 hrl (by omega) hrs (fun q hq => (hfr q hq).2) fun r H5 fr o5 hrq5 hrs5 => ?_
      have nr : r ≠ rq := (ne_of_none hrq4 fr).symm
      refine ⟨rs ++ [r], _, rfl, (fun b u q => o5 b u (ne_of_none q (e02.free frq)) (e4 b u q)), hrq5, by rw [List.length_append, hrl]; rfl, hrs5, fun x hx => ?_⟩
      rcases List.mem_append.mp hx with h | h
      · exact hfr x h
      · rw [List.mem_singleton.mp h]; exact ⟨e4.free fr, nr⟩
    · rintro σ' H4 ⟨rs, x4, rfl, e4, hrq4, hrl, hrs, hfr⟩
      rw [Int.toNat_natCast] at hrl
      o_readsAll
      rename_i q H5 fq e5 hq5
      have hcut : cutV (rs.map V.ref) (some 1) none = (rs.drop 1).map V.ref := by
        rw [show (some 1 : Option Int) = some ((1 : Nat) : Int) from rfl, cutV_from _ _ (by rw [List.length_map]; omega), List.map_drop]
      rw [hcut] at hq5
      refine k1 (by omega) (by omega) q (rs.drop 1) H5 (e4.free fq) (e4.trans e5) hq5 (by rw [List.length_drop]; omega) (fun t x hx => ?_) (fun r hr => ?_)
      · rw [List.getElem?_drop, Nat.add_comm] at hx
        exact (hrs _ _ hx).same e5
      · have hr' := List.mem_of_mem_drop hr
        obtain ⟨t, ht⟩ := List.getElem?_of_mem hr'
        exact ⟨(hfr r hr').1, ne_of_none (hrs t r ht) fq⟩
theorem c_rrows {t : Addr} {m late : Nat} {L : Int} {n : Nat} {fs : Nat → Int} {ret : Bool} {c : Nat → Int} {H : Hp} {Q : VK} {E : XK} (ht : TabAt Z.a_Table Z.a_Ladder H t L n fs ret c) (o : ROk L n fs c) (hm : m ≤ 300) (hl : late ≤ 6) (k : ∀ q rs H', H q = none → Same H H' → H' q = some (.lst (rs.map V.ref)) → rs.length = m → RowsN H' rs n (fun t => rws L n fs ret c late (t + 1)) → (∀ r ∈ rs, H r = none ∧ r ≠ q) → Q (.ref q) H') : sp_rrows Z [.ref t, .int (m : Int), .int (late : Int)] H Q E := ⟨t, m, late, L, n, fs, ret, c, rfl, ht, o, fun _ _ => k, fun h => absurd h (by omega), fun _ h => absurd h (by omega)⟩
theorem rng_eq_iff {n : Nat} {f g : Nat → Int} : ((List.range n).map f = (List.range n).map g) ↔ ∀ a, a < n → f a = g a := by
  constructor
  · intro h a ha
    have := congrArg (fun l => l[a]?) h
    simp only [List.getElem?_map, List.getElem?_range ha, Option.map_some] at this
    exact Option.some.inj this
  · intro h
    exact List.map_congr_left fun a ha => h a (List.mem_range.mp ha)
def AnsT (H : Hp) (p : Addr) : Ans → Prop
  | .round t => H p = some (.tup [.str "round", .int (t : Int)])
  | .never t => H p = some (.tup [.str "never", .int (t : Int)])
  | .none => False
def sp_crown (Z : Ad) : Sp := fun vs H Q E => ∃ (t : Addr) (cr : Int) (late : Nat) (L : Int) (n : Nat) (fs : Nat → Int) (ret : Bool) (c : Nat → Int), vs = [.ref t, .int cr, .int (late : Int)] ∧ TabAt Z.a_Table Z.a_Ladder H t L n fs ret c ∧ ROk L n fs c ∧ (late ≤ 6 → 1 ≤ cr → ∀ A, PrR (rws L n fs ret c late) n late cr A → ∀ p H', H p = none → Same H H' → AnsT H' p A → Q (.ref p) H') ∧ (late ≤ 6 → 1 ≤ cr → PrR (rws L n fs ret c late) n late cr .none → RaiseI Z.a_TooMany "what" (.str "rounds") H E) ∧ (6 < late → RaiseI Z.a_TooMany "what" (.str "late") H E) ∧ (late ≤ 6 → cr < 1 → RaiseI Z.a_BadDemand "what" (.str "crowns") H E)
theorem d_crown_round (T : Txt K w mg Z) : DfnX P w K mg base 4 "crown_round" ["table", "crowns", "late"] (sp_crown Z) := by
  obtain ⟨f, fd, F, hm, hb⟩ := T.f_crown_round
  refine ⟨f, fd, F.okX sc_crown_round (fun vs H Q E h => by first | (obtain ⟨rfl, _⟩ := h; rfl) | (obtain ⟨_, rfl, _⟩ := h; rfl) | (obtain ⟨_, _, rfl, _⟩ := h; rfl) | (obtain ⟨_, _, _, rfl, _⟩ := h; rfl) | (obtain ⟨_, _, _, _, rfl, _⟩ := h; rfl) | (obtain ⟨_, _, _, _, _, rfl, _⟩ := h; rfl) | (obtain ⟨_, _, _, _, _, _, rfl, _⟩ := h; rfl) | (obtain ⟨_, _, _, _, _, _, _, rfl, _⟩ := h; rfl) | (obtain ⟨_, _, _, _, _, _, _, _, rfl, _⟩ := h; rfl) | (obtain ⟨_, _, _, _, _, _, _, _, _, rfl, _⟩ := h; rfl) | (obtain ⟨_, _, _, _, _, _, _, _, _, _, rfl, _⟩ := h; rfl) | (obtain ⟨_, _, _, _, _, _, _, _, _, _, _, rfl, _⟩ := h; rfl) | (obtain ⟨_, _, _, _, _, _, _, _, _, _, _, _, rfl, _⟩ := h; rfl) | (obtain ⟨_, _, _, _, _, _, _, _, _, _, _, _, _, rfl, _⟩ := h; rfl) | (obtain ⟨_, _, _, _, _, _, _, _, _, _, _, _, _, _, rfl, _⟩ := h; rfl) | (obtain ⟨_, _, _, _, _, _, _, _, _, _, _, _, _, _, _, rfl, _⟩ := h; rfl) | (obtain ⟨_, _, _, _, _, _, _, _, _, _, _, _, _, _, _, _, rfl, _⟩ := h; rfl)) (fun cdv A outer s H vs Q E hr h => ?_), hm, F.kp, hb⟩
  obtain ⟨t, cr, late, L, n, fs, ret, c, rfl, ht, o, k1, k2, k3, k4⟩ := h
  have kl1 := T.k_LIMITS_rounds
  have kl2 := T.k_LIMITS_late
  have ht' := ht
  obtain ⟨dx, l, cl, i1, _, _⟩ := ht'
  have n4 := o.n4
  have n0 := o.n0
  have D_bound := d_bound (P := P) (base := base) T
  have D_TooMany_init := d_TooMany_init (P := P) (base := base) T
  have D_BadDemand_init := d_BadDemand_init (P := P) (base := base) T
  have D_grow := d_grow (P := P) (base := base) T
  have D_Table_counts := d_Table_counts (P := P) (base := base) T
  refine ⟨_, (pss_cons (ps_expr (pe_dfnS D_bound (hr.mono (by decide)) (by rfl) (takes_of rfl rfl rfl rfl) (pa_cons pe_str (pa_cons (pv 2) pa_nil))))
      (pss_cons (ps_if (pt_cmpR op_lt (pv 1) pe_int (nomark _)) (pss_one (ps_rs (takes_of rfl rfl rfl rfl) (pmk_iex D_BadDemand_init (hr.mono (by decide)) (by rfl) (pa_cons pe_str pa_nil)) rfl)) pss_nil)
      (pss_cons (ps_set (i := 3) sc_crown_round.nd rfl (.inl rfl) (pe_lst (pa_cons (pe_lc (own := [("_", 6)]) (by rfl) sc_crown_round.nd (pi_list (pe_mth0 D_Table_counts (hr.mono (by decide)) (pv 0))) (blkOk_by (N := n_crown_round) (sc := defScope st_crown_round) (by decide +kernel)) (fun _ _ _ _ _ => (pg_name (i := 6) sc_crown_round.nd rfl (.inl rfl))) (fun _ _ _ _ _ => pts_nil) (fun _ _ _ _ _ => pe_int)) pa_nil)))
      (pss_cons (ps_for (passes_of rfl) rfl (pi_range1 (by rfl) T.b_range (pa_cons (pe_ix ix_kdict (pe_gr T.c_LIMITS) pe_str (fun _ _ => rfl)) pa_nil)) (pg_name (i := 4) sc_crown_round.nd rfl (.inl rfl))
        (pss_cons (ps_expr (pe_dfn D_grow (hr.mono (by decide)) (by rfl) (pa_cons (pv 0) (pa_cons (pv 3) (pa_cons (pv 2) pa_nil)))))
      (pss_cons (ps_if (pt_cmpR op_ge (pe_ix ix_seq (pe_ix ix_seq (pv 3) (pe_un un_neg pe_int) (fun _ _ => rfl)) (pe_un un_neg pe_int) (fun _ _ => rfl)) (pv 1) (nomark _)) (pss_one (ps_ret (pe_tup (pa_cons pe_str (pa_cons (pe_op op_uAdd (pv 4) pe_int) pa_nil))))) pss_nil)
      (pss_cons (ps_set (i := 5) sc_crown_round.nd rfl (.inl rfl) (pe_op op_sub (pv 4) (pv 2)))
      (pss_one (ps_if (PW.pt (pw_and (pt_cmpR op_ge (pv 5) pe_int (nomark _)) (pw_and1 (pt_cmpR (op_uEq hr.units) (pe_ix ix_seq (pv 3) (pv 5) (fun _ _ => rfl)) (pe_ix ix_seq (pv 3) (pe_un un_neg pe_int) (fun _ _ => rfl)) (nomark _))))) (pss_one (ps_ret (pe_tup (pa_cons pe_str (pa_cons (pv 5) pa_nil))))) pss_nil))))))
      (pss_one (ps_rs (takes_of rfl rfl rfl rfl) (pmk_iex D_TooMany_init (hr.mono (by decide)) (by rfl) (pa_cons pe_str pa_nil)) rfl)))))), ?_⟩
  try dsimp only [cxOf, Cx.nox, Cx.wish]
  show (_ : TS) _ [some _, some _, some _, none, none, none, none] _
  o_readsAll
  refine c_bound kl2 T.m_TOLD_late (fun h2 => ?_) (fun h2 => k3 (by omega))
  o_readsAll
  refine br (fun hc => ?_) (fun hc => ?_)
  · o_readsAll
    refine c_raise fun d H1 hd1 e1 h1 => ?_
    exact k4 (by omega) hc d H1 hd1 e1 h1
  o_readsAll
  refine c_tcnt ht fun cm H1 fcm e1 hcm => ?_
  have hcm' := hcm
  unfold IL at hcm'
  o_readsAll
  refine l_lstP (xs := rng n c) (fun i => .int 0) (.of hcm') (fun x => rfl) (fun D i x H' hx hD e hl => ?_) fun z H2 fz e2 hz => ?_
  · o_readsAll
    exact g_itemP e hl hD (by rw [sizeLine_eq]; have := (List.getElem?_eq_some_iff.mp hx).1; rw [rng_len] at this; have := o.n4; omega) rfl
  · rw [rng_len] at hz
    have hz0 : IL H2 z n (rws L n fs ret c late 0) := by rw [rws_zero]; exact hz
    have e02 : Same H H2 := e1.trans e2
    o_readsAll
    rename_i rq H3 frq e3 hrq N hN
    have nz : z ≠ rq := ne_of_none hz frq
    refine g_kd kl1 ?_
    o_readsAll
    refine f_rng (fun i σ' H' => ∃ (rs : List Addr) (x4 x5 x6 : Option V), σ' = [some (.ref t), some (.int cr), some (.int (late : Int)), some (.ref rq), x4, x5, x6] ∧ Same H H' ∧ H' rq = some (.lst (rs.map V.ref)) ∧ rs.length = i + 1 ∧ RowsN H' rs n (rws L n fs ret c late) ∧ (∀ r ∈ rs, H r = none ∧ r ≠ rq) ∧ PrA (rws L n fs ret c late) n late cr i) ⟨[z], _, _, _, rfl, e02.trans e3, hrq, rfl, fun t q hq => ?_, fun r hr => ?_, ⟨fun j hj => by omega, fun j hj => by omega⟩⟩ ?_ ?_
    · match t, hq with
      | 0, hq => cases hq; exact hz0.same e3
      | t + 1, hq => cases hq
    · rw [List.mem_singleton.mp hr]
      exact ⟨e1.free fz, nz⟩
    · rintro i σ' H4 hi ⟨rs, x4, x5, x6, rfl, e4, hrq4, hrl, hrs, hfr, pra⟩
      have hi : i < 300 := hi
      rw [Int.zero_add]
      o_readsAll
      refine c_grow (ht.same e4) o hrq4 hrl (by omega) hrs (fun q hq => (hfr q hq).2) fun r H5 fr o5 hrq5 hrs5 => ?_
      have nr : r ≠ rq := (ne_of_none hrq4 fr).symm
      have e5 : Same H H5 := fun b u q => o5 b u (ne_of_none q (e02.free frq)) (e4 b u q)
      have hfr5 : ∀ x ∈ rs ++ [r], H x = none ∧ x ≠ rq := fun x hx => by
        rcases List.mem_append.mp hx with h | h
        · exact hfr x h
        · rw [List.mem_singleton.mp h]; exact ⟨e4.free fr, nr⟩
      have hr5 : IL H5 r n (rws L n fs ret c late (i + 1)) := hrs5 (i + 1) r (by rw [List.getElem?_append_right (by omega), hrl, Nat.sub_self]; rfl)
      have hgl : atI ((rs ++ [r]).map V.ref) (-1) = some (.ref r) := by rw [List.map_append]; exact atI_end _ _
      o_readsAll
      refine g_ixL (.of hrq5) hgl ?_
      o_readsAll
      refine g_ixL (v := .int (rws L n fs ret c late (i + 1) (n - 1))) hr5.sq (by
        obtain ⟨n', rfl⟩ : ∃ n', n = n' + 1 := ⟨n - 1, by omega⟩
        rw [rng_succ]
        exact atI_end _ _) ?_
      o_readsAll
      refine br (fun hge => ?_) (fun hge => ?_)
      · o_readsAll
        rename_i p H6 fp e6 hp
        exact k1 (by omega) (by omega) (.round (i + 1)) ⟨i, rfl, hi, pra, by omega⟩ p H6 (e5.free fp) (e5.trans e6) hp
      · o_readsAll
        refine and_j (d := decide (∀ a, a < n → rws L n fs ret c late (i - late) a = rws L n fs ret c late (i + 1) a)) (fun hst Q' hQ' => ?_) (fun H6 e6 => ?_)
        · have hst' : late ≤ i := by
            simp only [decide_eq_true_eq] at hst
            omega
          obtain ⟨q, hq⟩ : ∃ q, (rs ++ [r])[i - late]? = some q := ⟨_, List.getElem?_eq_getElem (by rw [List.length_append]; omega)⟩
          have hq5 := hrs5 _ _ hq
          o_readsAll
          refine g_ixL (.of hrq5) (at_ofN (j := i - late) (v := .ref q) (by omega) (by rw [List.getElem?_map, hq]; rfl)) ?_
          o_readsAll
          refine g_ixL (.of hrq5) hgl ?_
          refine g_eqIL (l := (List.range n).map _) (m := (List.range n).map _) (by rw [← rng_ints]; exact hq5.sq) (by rw [← rng_ints]; exact hr5.sq) ?_
          rw [show decide ((List.range n).map (rws L n fs ret c late (i - late)) = (List.range n).map (rws L n fs ret c late (i + 1))) = decide (∀ a, a < n → rws L n fs ret c late (i - late) a = rws L n fs ret c late (i + 1) a) from decide_eq_decide.mpr rng_eq_iff]
          o_readsAll
          exact hQ' _ (Same.refl _)
        · refine brB (fun hb => ?_) (fun hb => ?_)
          · simp only [Bool.and_eq_true, decide_eq_true_eq] at hb
            obtain ⟨hb1, hb2⟩ := hb
            o_readsAll
            rename_i p H7 fp e7 hp
            refine k1 (by omega) (by omega) (.never (i - late)) ⟨i, rfl, hi, by omega, pra, by omega, hb2⟩ p H7 (e5.free (e6.free fp)) ((e5.trans e6).trans e7) ?_
            show H7 p = some (.tup [.str "never", .int ((i - late : Nat) : Int)])
            rw [hp, show (i : Int) - (late : Int) = ((i - late : Nat) : Int) by omega]
          · o_readsAll
            refine ⟨rs ++ [r], _, _, _, rfl, e5.trans e6, e6 _ _ hrq5, by rw [List.length_append, hrl]; rfl, hrs5.same e6, hfr5, ⟨fun j hj => ?_, fun j hj hl => ?_⟩⟩
            · by_cases h : j = i
              · subst h; omega
              · exact pra.lt j (by omega)
            · by_cases h : j = i
              · subst h
                have hb3 : ¬ ∀ a, a < n → rws L n fs ret c late (j - late) a = rws L n fs ret c late (j + 1) a := fun hh => by
                  rw [decide_eq_true hh, decide_eq_true (show (0 : Int) ≤ (j : Int) - (late : Int) by omega)] at hb
                  cases hb
                exact Classical.byContradiction fun hn => hb3 fun a ha => Classical.byContradiction fun hne => hn ⟨a, ha, hne⟩
              · exact pra.ne j (by omega) hl
    · rintro σ' H4 ⟨rs, x4, x5, x6, rfl, e4, hrq4, hrl, hrs, hfr, pra⟩
      o_readsAll
      refine c_raise fun d H1 hd1 e1' h1 => ?_
      exact k2 (by omega) (by omega) pra d H1 (e4.free hd1) (e4.trans e1') h1
/-- the due answer, by the law -/
def DueT (H : Hp) (p : Addr) : Ans → Prop
  | .none => H p = some (.tup [.str "TooMany", .str "rounds"])
  | A => ∃ q, H p = some (.tup [.str "told", .ref q]) ∧ AnsT H q A
def sp_kdue : Sp := fun vs H Q _ => ∃ (rq : Addr) (cr : Int) (late : Nat) (rs : List Addr) (n : Nat) (f : Nat → Nat → Int), vs = [.ref rq, .int cr, .int (late : Int)] ∧ H rq = some (.lst (rs.map V.ref)) ∧ rs.length = 301 ∧ RowsN H rs n f ∧ 0 < n ∧ n ≤ 4 ∧ late ≤ 6 ∧ ∀ A, LwR f n late cr A → ∀ p H', H p = none → Same H H' → DueT H' p A → Q (.ref p) H'
theorem d_law_k29_due (T : Txt K w mg Z) : Dfn P w K mg base 1 "_law_k29_due" ["rows", "crowns", "late"] (sp_kdue) := by
  obtain ⟨f, fd, F, hm, hb⟩ := T.f_law_k29_due
  refine ⟨f, fd, F.ok sc_law_k29_due (fun vs H Q E h => by first | (obtain ⟨rfl, _⟩ := h; rfl) | (obtain ⟨_, rfl, _⟩ := h; rfl) | (obtain ⟨_, _, rfl, _⟩ := h; rfl) | (obtain ⟨_, _, _, rfl, _⟩ := h; rfl) | (obtain ⟨_, _, _, _, rfl, _⟩ := h; rfl) | (obtain ⟨_, _, _, _, _, rfl, _⟩ := h; rfl) | (obtain ⟨_, _, _, _, _, _, rfl, _⟩ := h; rfl) | (obtain ⟨_, _, _, _, _, _, _, rfl, _⟩ := h; rfl) | (obtain ⟨_, _, _, _, _, _, _, _, rfl, _⟩ := h; rfl) | (obtain ⟨_, _, _, _, _, _, _, _, _, rfl, _⟩ := h; rfl) | (obtain ⟨_, _, _, _, _, _, _, _, _, _, rfl, _⟩ := h; rfl) | (obtain ⟨_, _, _, _, _, _, _, _, _, _, _, rfl, _⟩ := h; rfl) | (obtain ⟨_, _, _, _, _, _, _, _, _, _, _, _, rfl, _⟩ := h; rfl) | (obtain ⟨_, _, _, _, _, _, _, _, _, _, _, _, _, rfl, _⟩ := h; rfl) | (obtain ⟨_, _, _, _, _, _, _, _, _, _, _, _, _, _, rfl, _⟩ := h; rfl) | (obtain ⟨_, _, _, _, _, _, _, _, _, _, _, _, _, _, _, rfl, _⟩ := h; rfl) | (obtain ⟨_, _, _, _, _, _, _, _, _, _, _, _, _, _, _, _, rfl, _⟩ := h; rfl)) (fun cdv A outer s H vs Q E hr h => ?_), hm, F.kp, hb⟩
  obtain ⟨rq, cr, late, rs, n, f', rfl, hrq, hrl, hrs, n0, n4, l6, k⟩ := h
  refine ⟨_, (pss_cons (ps_for PassesOwn.never rfl (pi_range1 (by rfl) T.b_range (pa_cons (pe_callB call_uLen (by rfl) T.b_len bt_len (pa_cons (pv 0) pa_nil)) pa_nil)) (pg_name (i := 3) sc_law_k29_due.nd rfl (.inl rfl))
        (pss_cons (ps_set (i := 4) sc_law_k29_due.nd rfl (.inl rfl) (pe_ix ix_seq (pv 0) (pv 3) (fun _ _ => rfl)))
      (pss_cons (ps_if (pt_cmpR op_ge (pe_ix ix_seq (pv 4) (pe_op op_sub (pe_callB call_uLen (by rfl) T.b_len bt_len (pa_cons (pv 4) pa_nil)) pe_int) (fun _ _ => rfl)) (pv 1) (nomark _)) (pss_one (ps_ret (pe_tup (pa_cons pe_str (pa_cons (pe_tup (pa_cons pe_str (pa_cons (pv 3) pa_nil))) pa_nil))))) pss_nil)
      (pss_one (ps_if (PW.pt (pw_and (pt_cmpR op_lt (pe_op op_uAdd (pe_op op_uAdd (pv 3) (pv 2)) pe_int) (pe_callB call_uLen (by rfl) T.b_len bt_len (pa_cons (pv 0) pa_nil)) (nomark _)) (pw_and1 (pt_cmpR (op_uEq hr.units) (pe_ix ix_seq (pv 0) (pe_op op_uAdd (pe_op op_uAdd (pv 3) (pv 2)) pe_int) (fun _ _ => rfl)) (pv 4) (nomark _))))) (pss_one (ps_ret (pe_tup (pa_cons pe_str (pa_cons (pe_tup (pa_cons pe_str (pa_cons (pv 3) pa_nil))) pa_nil))))) pss_nil)))))
      (pss_one (ps_ret (pe_tup (pa_cons pe_str (pa_cons pe_str pa_nil)))))), ?_⟩
  try dsimp only [cxOf, Cx.nox, Cx.wish]
  show (_ : TS) _ [some _, some _, some _, none, none] _
  o_readsAll
  rw [List.length_map, hrl]
  refine f_rng (fun i σ' H' => ∃ (x3 x4 : Option V), σ' = [some (.ref rq), some (.int cr), some (.int (late : Int)), x3, x4] ∧ Same H H' ∧ LwA f' n late cr i) ⟨_, _, rfl, Same.refl _, ⟨fun j hj => by omega, fun j hj => by omega⟩⟩ ?_ ?_
  · rintro i σ' H4 hi ⟨x3, x4, rfl, e4, lwa⟩
    have hi : i < 301 := hi
    rw [Int.zero_add]
    obtain ⟨r, hr'⟩ : ∃ q, rs[i]? = some q := ⟨_, List.getElem?_eq_getElem (by omega)⟩
    have hrq4 := e4 _ _ hrq
    have hr4 : IL H4 r n (f' i) := (hrs i r hr').same e4
    have hr4' := hr4
    unfold IL at hr4'
    o_readsAll
    refine g_ixL (.of hrq4) (atI_nat (v := .ref r) (by rw [List.getElem?_map, hr']; rfl)) ?_
    o_readsAll
    rw [rng_len]
    refine g_ixL hr4.sq (at_ofN (j := n - 1) (by omega) (rng_at (by omega))) ?_
    o_readsAll
    refine br (fun hge => ?_) (fun hge => ?_)
    · o_readsAll
      rename_i p H5 fp e5 hp p2 H6 fp2 e6 hp2
      exact k (.round i) ⟨hi, lwa, by omega⟩ p2 H6 (e4.free (e5.free fp2)) ((e4.trans e5).trans e6) ⟨p, hp2, e6 _ _ hp⟩
    · o_readsAll
      rw [List.length_map, hrl]
      refine and_j (d := decide (∀ a, a < n → f' (i + late + 1) a = f' i a)) (fun hst Q' hQ' => ?_) (fun H6 e6 => ?_)
      · have hst' : i + late + 1 < 301 := by
          simp only [decide_eq_true_eq] at hst
          omega
        obtain ⟨q, hq⟩ : ∃ q, rs[i + late + 1]? = some q := ⟨_, List.getElem?_eq_getElem (by omega)⟩
        have hq5 := (hrs _ _ hq).same e4
        o_readsAll
        refine g_ixL (.of hrq4) (at_ofN (j := i + late + 1) (v := .ref q) (by omega) (by rw [List.getElem?_map, hq]; rfl)) ?_
        o_readsAll
        refine g_eqIL (l := (List.range n).map _) (m := (List.range n).map _) (by rw [← rng_ints]; exact hq5.sq) (by rw [← rng_ints]; exact hr4.sq) ?_
        rw [show decide ((List.range n).map (f' (i + late + 1)) = (List.range n).map (f' i)) = decide (∀ a, a < n → f' (i + late + 1) a = f' i a) from decide_eq_decide.mpr rng_eq_iff]
        o_readsAll
        exact hQ' _ (Same.refl _)
      · refine brB (fun hb => ?_) (fun hb => ?_)
        · simp only [Bool.and_eq_true, decide_eq_true_eq] at hb
          obtain ⟨hb1, hb2⟩ := hb
          o_readsAll
          rename_i p H5 fp e5 hp p2 H7 fp2 e7 hp2
          exact k (.never i) ⟨hi, lwa, by omega, by omega, hb2⟩ p2 H7 (e4.free (e6.free (e5.free fp2))) (((e4.trans e6).trans e5).trans e7) ⟨p, hp2, e7 _ _ hp⟩
        · o_readsAll
          refine ⟨_, _, rfl, e4.trans e6, ⟨fun j hj => ?_, fun j hj hl => ?_⟩⟩
          · by_cases h : j = i
            · subst h; omega
            · exact lwa.lt j (by omega)
          · by_cases h : j = i
            · subst h
              have hb3 : ¬ ∀ a, a < n → f' (j + late + 1) a = f' j a := fun hh => by
                rw [decide_eq_true hh, decide_eq_true (show (j : Int) + (late : Int) + 1 < ((301 : Nat) : Int) by omega)] at hb
                cases hb
              exact Classical.byContradiction fun hn => hb3 fun a ha => Classical.byContradiction fun hne => hn ⟨a, ha, hne⟩
            · exact lwa.ne j (by omega) hl
  · rintro σ' H4 ⟨x3, x4, rfl, e4, lwa⟩
    o_readsAll
    rename_i p H5 fp e5 hp
    exact k .none lwa p H5 (e4.free fp) (e4.trans e5) hp
end
end L29

namespace L29
set_option exponentiation.threshold 2000
open SX Ld
section
variable {P : Program} {w : World} {K : PySem.W.Frag} {mg : Str → Option Value} {base : Heap} {Z : Ad}
theorem ext_of {H H' : Hp} (e : Same H H') : LamX.ExtN H H' := fun b o h _ => e b o h
theorem tabs_offL {T : List (Addr × Str)} {H H' : Hp} {s : Addr} {xs : List V} (t : LamX.Tabs T H) (hs : H s = some (.lst xs)) (o : Off s H H') : LamX.Tabs T H' := fun p hp => by
  obtain ⟨ps, h1, h2, h3⟩ := t p hp
  refine ⟨ps, o _ _ (ne_of h1 hs (fun z => nomatch z)) h1, h2, fun pos cv hc => ?_⟩
  obtain ⟨c, e1, e2⟩ := h3 pos cv hc
  exact ⟨c, e1, o _ _ (ne_of e2 hs (fun z => nomatch z)) e2⟩
theorem tabs_off {T : List (Addr × Str)} {H H' : Hp} {s : Addr} (t : LamX.Tabs T H) (hs : Stk H s) (o : Off s H H') : LamX.Tabs T H' := by
  obtain ⟨x, y, z, hs⟩ := hs
  exact tabs_offL t hs o
theorem Stk.ext {H H' : Hp} {a : Addr} (h : Stk H a) (e : LamX.ExtN H H') : Stk H' a := by obtain ⟨x, y, z, h⟩ := h; exact ⟨x, y, z, e _ _ h (fun _ z => nomatch z)⟩
/-- all but the stock and tables stay -/
def OffN (s : Addr) (H H' : Hp) : Prop := ∀ b u, b ≠ s → H b = some u → (∀ ps, u ≠ .tbl ps) → H' b = some u
theorem OffN.refl (s : Addr) (H : Hp) : OffN s H H := fun _ _ _ h _ => h
theorem OffN.trans {s : Addr} {H H1 H2 : Hp} (a : OffN s H H1) (b : OffN s H1 H2) : OffN s H H2 := fun c u hc h n => b c u hc (a c u hc h n) n
theorem OffN.off {s : Addr} {H H1 H2 : Hp} (a : OffN s H H1) (b : Off s H1 H2) : OffN s H H2 := fun c u hc h n => b c u hc (a c u hc h n)
theorem OffN.ext {s : Addr} {H H1 H2 : Hp} (a : OffN s H H1) (b : LamX.ExtN H1 H2) : OffN s H H2 := fun c u hc h n => b c u (a c u hc h n) n
theorem OffN.same {s : Addr} {H H1 H2 : Hp} (a : OffN s H H1) (b : Same H1 H2) : OffN s H H2 := fun c u hc h n => b c u (a c u hc h n)
theorem OffN.lst {s a : Addr} {H H1 : Hp} {xs : List V} (o : OffN s H H1) (n : s ≠ a) (h : H a = some (.lst xs)) : H1 a = some (.lst xs) := o _ _ n.symm h (fun _ z => nomatch z)
theorem LadFr.offN {C s : Addr} {H0 H H' : Hp} {l : Addr} {L : Int} {n : Nat} {fs : Nat → Int} {ret : Bool} {u : HO} (h : LadFr C H0 H l L n fs ret) (hs : H0 s = some u) (nl : l ≠ s) (o : OffN s H H') : LadFr C H0 H' l L n fs ret := by
  obtain ⟨dx, fl, lt, hl, wl, ps, ⟨a, b, c, d, f, g, i⟩, f1, f2, f3, f4, f5⟩ := h
  have ne : ∀ {x : Addr}, H0 x = none → x ≠ s := fun hx => (ne_of_none hs hx).symm
  exact ⟨dx, fl, lt, hl, wl, ps, ⟨o _ _ nl a (fun _ z => nomatch z), o _ _ (ne f1) b (fun _ z => nomatch z), o _ _ (ne f2) c (fun _ z => nomatch z), d, fun j q hq => o _ _ (ne (f5 q (List.mem_of_getElem? hq))) (f j q hq) (fun _ z => nomatch z), o _ _ (ne f3) g (fun _ z => nomatch z), o _ _ (ne f4) i (fun _ z => nomatch z)⟩, f1, f2, f3, f4, f5⟩
/-- refused by its class -/
theorem ask_ref {tl : XK → Hp → VK → Prop} {C : Addr} {f : Str} {v : V} {H : Hp} (h : ∀ E1 Q1, RaiseI C f v H E1 → tl E1 H Q1) : ∀ E1 Q1, (∀ d H1, Same H H1 → H1 d = some (.xd [(f, v)]) → E1 (.ref C) (some d) H1) → tl E1 H Q1 := fun E1 Q1 k => h E1 Q1 fun d H1 _ e hd => k d H1 e hd
/-- nothing that stays is here -/
def Frn (H : Hp) (b : Addr) : Prop := ∀ u, H b = some u → ∃ ps, u = .tbl ps
theorem OffN.fr {s b : Addr} {H H' : Hp} (o : OffN s H H') (n : s ≠ b) (h : H' b = none) : Frn H b := fun u hu => by
  cases u <;> first | exact ⟨_, rfl⟩ | (have e := o b _ n.symm hu (fun _ z => nomatch z); rw [h] at e; cases e)
theorem OffN.putF {s b : Addr} {H H' : Hp} {x : HO} (o : OffN s H H') (f : Frn H b) : OffN s H (upd H' b x) := fun c u hc h n => by
  by_cases e : c = b
  · subst e
    obtain ⟨ps, hp⟩ := f u h
    exact absurd hp (n ps)
  · rw [upd_ne e]
    exact o c u hc h n
theorem set_map (l : List Int) (j : Nat) (v : Int) : (l.map V.int).set j (.int v) = (l.set j v).map V.int := by
  rw [List.map_set]
theorem tabs_put {T : List (Addr × Str)} {H : Hp} {b : Addr} {xs : List V} {o : HO} (t : LamX.Tabs T H) (hb : H b = some (.lst xs)) : LamX.Tabs T (upd H b o) := tabs_offL t hb ((off_refl _ _).upd)
/-- a table that the stock does not touch -/
def TabS (C CL s : Addr) (H : Hp) (t : Addr) (L : Int) (n : Nat) (fs : Nat → Int) (ret : Bool) (cs : Nat → Int) : Prop := ∀ H', OffN s H H' → TabAt C CL H' t L n fs ret cs
theorem TabS.at {C CL s : Addr} {H : Hp} {t : Addr} {L : Int} {n : Nat} {fs : Nat → Int} {ret : Bool} {cs : Nat → Int} (h : TabS C CL s H t L n fs ret cs) : TabAt C CL H t L n fs ret cs := h H (OffN.refl _ _)
theorem TabS.off {C CL s : Addr} {H H1 : Hp} {t : Addr} {L : Int} {n : Nat} {fs : Nat → Int} {ret : Bool} {cs : Nat → Int} (h : TabS C CL s H t L n fs ret cs) (o : OffN s H H1) : TabS C CL s H1 t L n fs ret cs := fun H' o' => h H' (o.trans o')
end
end L29

namespace L29
set_option exponentiation.threshold 9000
open SX Ld Rd
section
variable {P : Program} {w : World} {K : PySem.W.Frag} {mg : Str → Option Value} {base : Heap} {Z : Ad}
theorem AnsT.same {H H' : Hp} {p : Addr} {A : Ans} (h : AnsT H p A) (e : Same H H') : AnsT H' p A := by
  cases A with
  | round t => exact e _ _ h
  | never t => exact e _ _ h
  | none => exact h.elim
theorem flat2 {s : Str} {i : Int} : ∀ v ∈ [V.str s, V.int i], Flat v := fun v hv => by
  rcases List.mem_cons.mp hv with h | h
  · rw [h]; trivial
  · rw [List.mem_singleton.mp h]; trivial
theorem alk_ans {H : Hp} {a b : Addr} {A : Ans} (h1 : AnsT H a A) (h2 : AnsT H b A) : Alk H 2 (.ref a) (.ref b) := by
  cases A with
  | round t => exact alk_tup (m := 0) h1 h2 (Nat.le_trans (Nat.le_refl 2) (by decide)) flat2
  | never t => exact alk_tup (m := 0) h1 h2 (Nat.le_trans (Nat.le_refl 2) (by decide)) flat2
  | none => exact h1.elim
theorem alk_pair {H : Hp} {n : Nat} {a b : Addr} {s : Str} {x y : V} (ha : H a = some (.tup [.str s, x])) (hb : H b = some (.tup [.str s, y])) (h : Alk H (n + 1) x y) : Alk H (n + 2) (.ref a) (.ref b) := by
  refine .inr (.inr (.inr (.inr (.inl ⟨a, b, _, _, rfl, rfl, ha, hb, rfl, Nat.le_trans (Nat.le_refl 2) (by decide), fun i u v hu hv => ?_⟩))))
  match i, hu, hv with
  | 0, hu, hv => cases hu; cases hv; exact .inr (.inr (.inl ⟨_, rfl, rfl⟩))
  | 1, hu, hv => cases hu; cases hv; exact h
  | i + 2, hu, _ => cases hu
def sp_kcrowns (Z : Ad) : Sp := fun vs H Q _ => ∃ (st p t cq fl : Addr) (late : Nat) (L : Int) (n : Nat) (fs : Nat → Int) (ret : Bool) (c : Nat → Int), vs = [.ref st, .ref p, .ref t, .ref cq, .int (late : Int)] ∧ Stk H st ∧ TabS Z.a_Table Z.a_Ladder st H t L n fs ret c ∧ H p = some (.lst [.int L, .ref fl, .bl ret]) ∧ IL H fl n fs ∧ IL H cq n c ∧ st ≠ p ∧ st ≠ fl ∧ st ≠ cq ∧ ROk L n fs c ∧ late ≤ 6 ∧ LamX.Tabs (tabs Z) H ∧ ∀ H', Stk H' st → OffN st H H' → LamX.Tabs (tabs Z) H' → Q (.bl true) H'
theorem d_law_k29_crowns (T : Txt K w mg Z) (B : Bas Z mg base) : Dfn P w K mg base 11 "_law_k29_crowns" ["stock", "plain", "table", "counts", "late"] (sp_kcrowns Z) := by
  obtain ⟨f, fd, F, hc, hm, hb⟩ := T.f_law_k29_crowns
  refine ⟨f, fd, okC F hc sc_law_k29_crowns (fun vs H Q E h => by first | (obtain ⟨rfl, _⟩ := h; rfl) | (obtain ⟨_, rfl, _⟩ := h; rfl) | (obtain ⟨_, _, rfl, _⟩ := h; rfl) | (obtain ⟨_, _, _, rfl, _⟩ := h; rfl) | (obtain ⟨_, _, _, _, rfl, _⟩ := h; rfl) | (obtain ⟨_, _, _, _, _, rfl, _⟩ := h; rfl) | (obtain ⟨_, _, _, _, _, _, rfl, _⟩ := h; rfl) | (obtain ⟨_, _, _, _, _, _, _, rfl, _⟩ := h; rfl) | (obtain ⟨_, _, _, _, _, _, _, _, rfl, _⟩ := h; rfl) | (obtain ⟨_, _, _, _, _, _, _, _, _, rfl, _⟩ := h; rfl) | (obtain ⟨_, _, _, _, _, _, _, _, _, _, rfl, _⟩ := h; rfl) | (obtain ⟨_, _, _, _, _, _, _, _, _, _, _, rfl, _⟩ := h; rfl) | (obtain ⟨_, _, _, _, _, _, _, _, _, _, _, _, rfl, _⟩ := h; rfl) | (obtain ⟨_, _, _, _, _, _, _, _, _, _, _, _, _, rfl, _⟩ := h; rfl) | (obtain ⟨_, _, _, _, _, _, _, _, _, _, _, _, _, _, rfl, _⟩ := h; rfl) | (obtain ⟨_, _, _, _, _, _, _, _, _, _, _, _, _, _, _, rfl, _⟩ := h; rfl) | (obtain ⟨_, _, _, _, _, _, _, _, _, _, _, _, _, _, _, _, rfl, _⟩ := h; rfl)) (fun A outer s H vs Q E hr h => ?_), hm, F.kp, hb⟩
  obtain ⟨st, p, t, cq, fl, late, L, n, fs, ret, c, rfl, hs, ht, hp, hf, hc, np, nf, nc, o, l6, hT, k⟩ := h
  have n0 := o.n0
  have n4 := o.n4
  have l2 := o.l2
  have D_law_k29_rows := d_law_k29_rows (P := P) (base := base) T
  have D_law_k29_due := d_law_k29_due (P := P) (base := base) T
  have D_law_draw := d_law_draw (P := P) (base := base) T
  have D_law_matches := d_law_matches (P := P) (base := base) T
  have D_law_e_asked := d_law_e_asked (P := P) (base := base) T
  have D_crown_round := d_crown_round (P := P) (base := base) T
  refine ⟨_, (pss_cons (ps_set (i := 5) sc_law_k29_crowns.nd rfl (.inl rfl) (pe_dfn D_law_k29_rows (hr.mono (by decide)) (by rfl) (pa_cons (pv 1) (pa_cons (pv 3) (pa_cons pe_int (pa_cons (pv 4) pa_nil))))))
      (pss_cons (ps_for PassesOwn.never rfl (pi_list (pe_lst (pa_cons pe_int (pa_cons (pe_op op_uAdd pe_int (pe_dfn D_law_draw (hr.mono (by decide)) (by rfl) (pa_cons (pv 0) (pa_cons pe_int pa_nil)))) (pa_cons (pe_op op_pow pe_int pe_int) (pa_cons (pe_callB (call_uMax2 rfl) (by rfl) T.b_max bt_max (pa_cons pe_int (pa_cons (pe_ix ix_seq (pe_ix ix_seq (pv 5) pe_int (fun _ _ => rfl)) (pe_op op_sub (pe_callB call_uLen (by rfl) T.b_len bt_len (pa_cons (pv 3) pa_nil)) pe_int) (fun _ _ => rfl)) pa_nil))) pa_nil)))))) (pg_name (i := 6) sc_law_k29_crowns.nd rfl (.inr rfl))
        (pss_cons (ps_set (i := 7) sc_law_k29_crowns.nd rfl (.inl rfl) (pe_dfn D_law_k29_due (hr.mono (by decide)) (by rfl) (pa_cons (pv 5) (pa_cons (pv 6) (pa_cons (pv 4) pa_nil)))))
      (pss_one (ps_if (pt_not (pt_u (pe_dfn (D_law_matches 3) (hr.mono (by decide)) (by rfl) (pa_cons (pe_lam (T := tabs Z) D_law_e_asked (hr.mono (by decide)) (by rfl) pa_nil B.b_law_k29_crowns rfl (tabs_law_k29_crowns Z) (tabu_law_k29_crowns B) (LamX.lamS_by (sc := defScope st_law_k29_crowns) (by decide +kernel)) rfl (fun _ _ _ _ _ => rfl) (fun A outer s H E f c' hr => (pe_dfnS D_crown_round (hr.mono (by decide)) (by rfl) (takes_of rfl rfl rfl rfl) (pa_cons (pv 2) (pa_cons (pv 6) (pa_cons (pv 4) pa_nil))))) rfl rfl) (pa_cons (pv 7) pa_nil))))) (pss_one (ps_ret pe_bl)) pss_nil))))
      (pss_one (ps_ret pe_bl)))), ?_⟩
  try dsimp only [cxOf, Cx.nox, Cx.wish]
  show (_ : TS) _ [some _, some _, some _, some _, some _, none, none, none] _
  o_readsAll
  refine c_krows (m := 300) ⟨fl, hp, hf⟩ hc o (by omega) fun rq rs H1 frq e1 hrq hrl hrs hfr => ?_
  have s1 := hs.same e1
  have nrq : st ≠ rq := hs.ne frq
  have hc1' := hc.same e1
  unfold IL at hc1'
  o_readsAll
  refine c_draw (by decide) (by decide) s1 fun d H2 d0 d3 s2 o2 => ?_
  have hrq2 := o2 _ _ nrq.symm hrq
  have hrs2 : RowsN H2 rs n (rws L n fs ret c late) := fun i q hq => o2 _ _ ((hs.ne (hfr q (List.mem_of_getElem? hq)).1).symm) (hrs i q hq)
  have hc2 := o2 _ _ nc.symm hc1'
  obtain ⟨r7, hr7⟩ : ∃ q, rs[7]? = some q := ⟨_, List.getElem?_eq_getElem (by omega)⟩
  have hr72 := hrs2 7 r7 hr7
  o_readsAll
  refine g_ixL (.of hrq2) (atI_nat (j := 7) (v := .ref r7) (by rw [List.getElem?_map, hr7]; rfl)) ?_
  o_readsAll
  rw [rng_len]
  refine g_ixL hr72.sq (at_ofN (j := n - 1) (by omega) (rng_at (by omega))) ?_
  o_readsAll
  rename_i ip H3 fip e3 hip
  have s3 := s2.same e3
  have o13 : OffN st H H3 := (((OffN.refl _ _).same e1).off o2).same e3
  have T3 := (tabs_off (hT.ext e1) s1 o2).ext e3
  have nip : st ≠ ip := s2.ne fip
  have hrq3 := e3 _ _ hrq2
  have hrs3 := hrs2.same e3
  have ht3 := ht.off o13
  clear hr72 hc2 hrq2 hrs2 hc1'
  generalize hls : [V.int 1, V.int (2 + d), V.int _, V.int _] = ls at hip
  have hall : ∀ (j : Nat) (y : V), ls[j]? = some y → ∃ cr : Int, y = .int cr ∧ 1 ≤ cr := by
    intro j y hy
    rw [← hls] at hy
    match j, hy with
    | 0, hy => cases hy; exact ⟨_, rfl, by decide⟩
    | 1, hy => cases hy; exact ⟨_, rfl, by omega⟩
    | 2, hy => cases hy; exact ⟨_, rfl, by decide⟩
    | 3, hy => cases hy; exact ⟨_, rfl, by split <;> omega⟩
    | j + 4, hy => exact absurd hy (by simp)
  clear hls
  obtain ⟨dx, l, cl, i1, _, _⟩ := ht3.at
  refine f_lst (xs := ls) (fun i σ' H' => ∃ (x6 x7 : Option V), σ' = [some (.ref st), some (.ref p), some (.ref t), some (.ref cq), some (.int (late : Int)), some (.ref rq), x6, x7] ∧ Stk H' st ∧ OffN st H3 H' ∧ LamX.Tabs (tabs Z) H') ⟨_, _, rfl, s3, OffN.refl _ _, T3⟩ ?_ ?_ ?_
  · rintro i σ' H' hi ⟨x6, x7, rfl, s4, o4, T4⟩
    exact .of (o4.lst nip hip)
  · rintro i y σ' H4 hy ⟨x6, x7, rfl, s4, o4, T4⟩
    obtain ⟨cr, rfl, cr1⟩ := hall i y hy
    have hrq4 := o4.lst nrq hrq3
    have hrs4 : RowsN H4 rs n (rws L n fs ret c late) := fun i q hq => o4.lst (hs.ne (hfr q (List.mem_of_getElem? hq)).1) (hrs3 i q hq)
    o_readsAll
    refine ⟨rq, cr, late, rs, n, _, rfl, hrq4, by omega, hrs4, n0, n4, l6, fun A hA q H5 fq e5 hq => ?_⟩
    have T5 := T4.ext e5
    have s5 := s4.same e5
    have o5 := o4.same e5
    o_readsAll
    refine i_lam2 T5 fun H6 e6 T6 c' hc' => ?_
    have o6 := o5.ext e6
    have s6 := s5.ext e6
    have ht6 := (ht3.off o6).at
    have hdue : DueT H6 q A := by
      cases A with
      | round t => obtain ⟨x, a, b⟩ := hq; exact ⟨x, e6 _ _ a (fun _ z => nomatch z), e6 _ _ b (fun _ z => nomatch z)⟩
      | never t => obtain ⟨x, a, b⟩ := hq; exact ⟨x, e6 _ _ a (fun _ z => nomatch z), e6 _ _ b (fun _ z => nomatch z)⟩
      | none => exact e6 _ _ hq (fun _ z => nomatch z)
    have same : ∀ {A'}, PrR (rws L n fs ret c late) n late cr A' → A' = A := fun h => ans_eq (by omega) o.c0 n0 cr1 h hA
    o_readsAll
    refine c_asked (fun nm v H1 => A = .none ∧ nm = "TooMany" ∧ v = .str "rounds" ∧ Same H6 H1) (fun v H1 => ∃ x, v = .ref x ∧ AnsT H1 x A ∧ Same H6 H1) (fun E1 Q1 h1 h2 => ⟨hc', ?_⟩) (fun nm v H7 hre p' H8 fp' e8 hp' => ?_) (fun v H7 hro p' H8 fp' e8 hp' => ?_)
    · o_readsAll
      refine ⟨t, cr, late, L, n, fs, ret, c, rfl, ht6, o, fun _ _ A' hA' x H7 fx e7 hx => ?_, fun _ _ hA' d H7 fd e7 hd => ?_, fun h => absurd h (by omega), fun _ h => absurd h (by omega)⟩
      · rw [same hA'] at hx
        exact h2 _ _ ⟨x, rfl, hx, e7⟩
      · exact h1 "TooMany" Z.a_TooMany "what" d (.str "rounds") H7 err_TooMany hd ⟨(same hA').symm, rfl, rfl, e7⟩
    · obtain ⟨rfl, rfl, rfl, e7⟩ := hre
      o_readsAll
      refine c_mat (alk_pair hp' (e8 _ _ (e7 _ _ hdue)) (.inr (.inr (.inl ⟨_, rfl, rfl⟩)))) fun H9 e9 => ?_
      have e69 : Same H6 H9 := (e7.trans e8).trans e9
      o_readsAll
      exact ⟨_, _, rfl, s6.same e69, o6.same e69, T6.ext e69⟩
    · obtain ⟨x, rfl, hx, e7⟩ := hro
      have hd2 : ∃ y, H6 q = some (.tup [.str "told", .ref y]) ∧ AnsT H6 y A := by
        cases A with
        | round t => exact hdue
        | never t => exact hdue
        | none => exact hx.elim
      obtain ⟨y, hy1, hy2⟩ := hd2
      o_readsAll
      refine c_mat (alk_pair hp' (e8 _ _ (e7 _ _ hy1)) (alk_ans (hx.same e8) ((hy2.same e7).same e8))) fun H9 e9 => ?_
      have e69 : Same H6 H9 := (e7.trans e8).trans e9
      o_readsAll
      exact ⟨_, _, rfl, s6.same e69, o6.same e69, T6.ext e69⟩
  · rintro σ' H4 ⟨x6, x7, rfl, s4, o4, T4⟩
    o_readsAll
    exact k H4 s4 (o13.trans o4) T4
def sp_kref (Z : Ad) : Sp := fun vs H Q _ => ∃ (t : Addr) (L : Int) (n : Nat) (fs : Nat → Int) (ret : Bool) (c : Nat → Int), vs = [.ref t] ∧ TabAt Z.a_Table Z.a_Ladder H t L n fs ret c ∧ ROk L n fs c ∧ LamX.Tabs (tabs Z) H ∧ ∀ H', LamX.ExtN H H' → LamX.Tabs (tabs Z) H' → Q (.bl true) H'
theorem d_law_k29_refusals (T : Txt K w mg Z) (B : Bas Z mg base) : Dfn P w K mg base 12 "_law_k29_refusals" ["table"] (sp_kref Z) := by
  obtain ⟨f, fd, F, hc, hm, hb⟩ := T.f_law_k29_refusals
  refine ⟨f, fd, okC F hc sc_law_k29_refusals (fun vs H Q E h => by first | (obtain ⟨rfl, _⟩ := h; rfl) | (obtain ⟨_, rfl, _⟩ := h; rfl) | (obtain ⟨_, _, rfl, _⟩ := h; rfl) | (obtain ⟨_, _, _, rfl, _⟩ := h; rfl) | (obtain ⟨_, _, _, _, rfl, _⟩ := h; rfl) | (obtain ⟨_, _, _, _, _, rfl, _⟩ := h; rfl) | (obtain ⟨_, _, _, _, _, _, rfl, _⟩ := h; rfl) | (obtain ⟨_, _, _, _, _, _, _, rfl, _⟩ := h; rfl) | (obtain ⟨_, _, _, _, _, _, _, _, rfl, _⟩ := h; rfl) | (obtain ⟨_, _, _, _, _, _, _, _, _, rfl, _⟩ := h; rfl) | (obtain ⟨_, _, _, _, _, _, _, _, _, _, rfl, _⟩ := h; rfl) | (obtain ⟨_, _, _, _, _, _, _, _, _, _, _, rfl, _⟩ := h; rfl) | (obtain ⟨_, _, _, _, _, _, _, _, _, _, _, _, rfl, _⟩ := h; rfl) | (obtain ⟨_, _, _, _, _, _, _, _, _, _, _, _, _, rfl, _⟩ := h; rfl) | (obtain ⟨_, _, _, _, _, _, _, _, _, _, _, _, _, _, rfl, _⟩ := h; rfl) | (obtain ⟨_, _, _, _, _, _, _, _, _, _, _, _, _, _, _, rfl, _⟩ := h; rfl) | (obtain ⟨_, _, _, _, _, _, _, _, _, _, _, _, _, _, _, _, rfl, _⟩ := h; rfl)) (fun A outer s H vs Q E hr h => ?_), hm, F.kp, hb⟩
  obtain ⟨t, L, n, fs, ret, c, rfl, ht, o, hT, k⟩ := h
  have D_law_e_refused := d_law_e_refused (P := P) (base := base) T
  have D_round_rows := d_round_rows (P := P) (base := base) T
  have D_crown_round := d_crown_round (P := P) (base := base) T
  refine ⟨_, (pss_cons (ps_if (pt_not (pt_u (pe_lam (T := tabs Z) D_law_e_refused (hr.mono (by decide)) (by rfl) (pa_cons (pe_tup (pa_cons pe_str (pa_cons pe_str pa_nil))) pa_nil) B.b_law_k29_refusals rfl (tabs_law_k29_refusals Z) (tabu_law_k29_refusals B) (LamX.lamS_by (sc := defScope st_law_k29_refusals) (by decide +kernel)) rfl (fun _ _ _ _ _ => rfl) (fun A outer s H E f c' hr => (pe_dfnS D_crown_round (hr.mono (by decide)) (by rfl) (takes_of rfl rfl rfl rfl) (pa_cons (pv 0) (pa_cons pe_int (pa_cons pe_int pa_nil))))) rfl rfl))) (pss_one (ps_ret pe_bl)) pss_nil)
      (pss_cons (ps_if (pt_not (pt_u (pe_lam (T := tabs Z) D_law_e_refused (hr.mono (by decide)) (by rfl) (pa_cons (pe_tup (pa_cons pe_str (pa_cons pe_str pa_nil))) pa_nil) B.b_law_k29_refusals rfl (tabs_law_k29_refusals Z) (tabu_law_k29_refusals B) (LamX.lamS_by (sc := defScope st_law_k29_refusals) (by decide +kernel)) rfl (fun _ _ _ _ _ => rfl) (fun A outer s H E f c' hr => (pe_dfnS D_crown_round (hr.mono (by decide)) (by rfl) (takes_of rfl rfl rfl rfl) (pa_cons (pv 0) (pa_cons pe_int (pa_cons pe_int pa_nil))))) rfl rfl))) (pss_one (ps_ret pe_bl)) pss_nil)
      (pss_cons (ps_if (pt_not (pt_u (pe_lam (T := tabs Z) D_law_e_refused (hr.mono (by decide)) (by rfl) (pa_cons (pe_tup (pa_cons pe_str (pa_cons pe_str pa_nil))) pa_nil) B.b_law_k29_refusals rfl (tabs_law_k29_refusals Z) (tabu_law_k29_refusals B) (LamX.lamS_by (sc := defScope st_law_k29_refusals) (by decide +kernel)) rfl (fun _ _ _ _ _ => rfl) (fun A outer s H E f c' hr => (pe_dfnS D_round_rows (hr.mono (by decide)) (by rfl) (takes_of rfl rfl rfl rfl) (pa_cons (pv 0) (pa_cons pe_int (pa_cons pe_int pa_nil))))) rfl rfl))) (pss_one (ps_ret pe_bl)) pss_nil)
      (pss_cons (ps_if (pt_not (pt_u (pe_lam (T := tabs Z) D_law_e_refused (hr.mono (by decide)) (by rfl) (pa_cons (pe_tup (pa_cons pe_str (pa_cons pe_str pa_nil))) pa_nil) B.b_law_k29_refusals rfl (tabs_law_k29_refusals Z) (tabu_law_k29_refusals B) (LamX.lamS_by (sc := defScope st_law_k29_refusals) (by decide +kernel)) rfl (fun _ _ _ _ _ => rfl) (fun A outer s H E f c' hr => (pe_dfnS D_round_rows (hr.mono (by decide)) (by rfl) (takes_of rfl rfl rfl rfl) (pa_cons (pv 0) (pa_cons pe_int (pa_cons pe_int pa_nil))))) rfl rfl))) (pss_one (ps_ret pe_bl)) pss_nil)
      (pss_one (ps_ret (pe_lam (T := tabs Z) D_law_e_refused (hr.mono (by decide)) (by rfl) (pa_cons (pe_tup (pa_cons pe_str (pa_cons pe_str pa_nil))) pa_nil) B.b_law_k29_refusals rfl (tabs_law_k29_refusals Z) (tabu_law_k29_refusals B) (LamX.lamS_by (sc := defScope st_law_k29_refusals) (by decide +kernel)) rfl (fun _ _ _ _ _ => rfl) (fun A outer s H E f c' hr => (pe_dfnS D_round_rows (hr.mono (by decide)) (by rfl) (takes_of rfl rfl rfl rfl) (pa_cons (pv 0) (pa_cons pe_int (pa_cons pe_int pa_nil))))) rfl rfl))))))), ?_⟩
  try dsimp only [cxOf, Cx.nox, Cx.wish]
  show (_ : TS) _ [some _] _
  o_readsAll
  refine i_lam2 hT fun H0a e0a T0a c0 hc0 => ?_
  have ht0a := ht.ext e0a
  o_readsAll
  rename_i du0 H0b fdu0 e0b hdu0
  refine c_refused (v := .str _) err_BadDemand trivial hdu0 (fun E1 Q1 h1 => ⟨e0b _ _ hc0, ?_⟩) fun H0c e0c => ?_
  · o_readsAll
    exact ⟨t, 0, 6, L, n, fs, ret, c, rfl, ht0a.same e0b, o, fun _ h => absurd h (by decide), fun _ h => absurd h (by decide), fun h => absurd h (by decide), fun _ _ d H' _ e hd => h1 d H' e hd⟩
  have T0c := (T0a.ext e0b).ext e0c
  have ht0c := (ht0a.same e0b).same e0c
  have E0 : LamX.ExtN H H0c := fun b u h n => e0c _ _ (e0b _ _ (e0a _ _ h n))
  o_readsAll
  refine i_lam2 T0c fun H1a e1a T1a c1 hc1 => ?_
  have ht1a := ht0c.ext e1a
  o_readsAll
  rename_i du1 H1b fdu1 e1b hdu1
  refine c_refused (v := .str _) err_TooMany trivial hdu1 (fun E1 Q1 h1 => ⟨e1b _ _ hc1, ?_⟩) fun H1c e1c => ?_
  · o_readsAll
    exact ⟨t, 0, 7, L, n, fs, ret, c, rfl, ht1a.same e1b, o, fun h => absurd h (by decide), fun h => absurd h (by decide), fun _ d H' _ e hd => h1 d H' e hd, fun h => absurd h (by decide)⟩
  have T1c := (T1a.ext e1b).ext e1c
  have ht1c := (ht1a.same e1b).same e1c
  have E1 : LamX.ExtN H H1c := fun b u h n => e1c _ _ (e1b _ _ (e1a _ _ (E0 b u h n) n))
  o_readsAll
  refine i_lam2 T1c fun H2a e2a T2a c2 hc2 => ?_
  have ht2a := ht1c.ext e2a
  o_readsAll
  rename_i du2 H2b fdu2 e2b hdu2
  refine c_refused (v := .str _) err_TooMany trivial hdu2 (fun E1 Q1 h1 => ⟨e2b _ _ hc2, ?_⟩) fun H2c e2c => ?_
  · o_readsAll
    exact ⟨t, 301, 7, L, n, fs, ret, c, rfl, ht2a.same e2b, o, fun h => absurd h (by decide), fun _ d H' _ e hd => h1 d H' e hd, fun h => absurd h (by decide)⟩
  have T2c := (T2a.ext e2b).ext e2c
  have ht2c := (ht2a.same e2b).same e2c
  have E2 : LamX.ExtN H H2c := fun b u h n => e2c _ _ (e2b _ _ (e2a _ _ (E1 b u h n) n))
  o_readsAll
  refine i_lam2 T2c fun H3a e3a T3a c3 hc3 => ?_
  have ht3a := ht2c.ext e3a
  o_readsAll
  rename_i du3 H3b fdu3 e3b hdu3
  refine c_refused (v := .str _) err_TooMany trivial hdu3 (fun E1 Q1 h1 => ⟨e3b _ _ hc3, ?_⟩) fun H3c e3c => ?_
  · o_readsAll
    exact ⟨t, 2, 7, L, n, fs, ret, c, rfl, ht3a.same e3b, o, fun _ h => absurd h (by decide), fun h => absurd h (by decide), fun _ _ d H' _ e hd => h1 d H' e hd⟩
  have T3c := (T3a.ext e3b).ext e3c
  have ht3c := (ht3a.same e3b).same e3c
  have E3 : LamX.ExtN H H3c := fun b u h n => e3c _ _ (e3b _ _ (e3a _ _ (E2 b u h n) n))
  o_readsAll
  refine i_lam2 T3c fun H4a e4a T4a c4 hc4 => ?_
  have ht4a := ht3c.ext e4a
  o_readsAll
  rename_i du4 H4b fdu4 e4b hdu4
  refine c_refused (v := .str _) err_TooMany trivial hdu4 (fun E1 Q1 h1 => ⟨e4b _ _ hc4, ?_⟩) fun H4c e4c => ?_
  · o_readsAll
    exact ⟨t, 301, 0, L, n, fs, ret, c, rfl, ht4a.same e4b, o, fun h => absurd h (by decide), fun _ d H' _ e hd => h1 d H' e hd, fun h => absurd h (by decide)⟩
  have T4c := (T4a.ext e4b).ext e4c
  have ht4c := (ht4a.same e4b).same e4c
  have E4 : LamX.ExtN H H4c := fun b u h n => e4c _ _ (e4b _ _ (e4a _ _ (E3 b u h n) n))
  o_readsAll
  exact k _ E4 T4c
end
end L29

namespace L29
set_option exponentiation.threshold 9000
open SX Ld Rd
section
variable {P : Program} {w : World} {K : PySem.W.Frag} {mg : Str → Option Value} {base : Heap} {Z : Ad}
/-- players: where each stands, from when on that is known -/
def Pls (H : Hp) (ps : List Addr) (R Kn : Nat → Int) : Prop := ∀ (i : Nat) (q : Addr), ps[i]? = some q → H q = some (.lst [.int (R i), .int (Kn i)])
theorem Pls.offs {H H' : Hp} {ps l : List Addr} {R Kn : Nat → Int} (h : Pls H ps R Kn) (n : ∀ q ∈ ps, Nn q l) (o : Offs l H H') : Pls H' ps R Kn := fun i q hq => o _ _ (n q (List.mem_of_getElem? hq)) (h i q hq)
theorem Pls.same {H H' : Hp} {ps : List Addr} {R Kn : Nat → Int} (h : Pls H ps R Kn) (o : Same H H') : Pls H' ps R Kn := fun i q hq => o _ _ (h i q hq)
theorem Pls.off {H H' : Hp} {ps : List Addr} {s : Addr} {R Kn : Nat → Int} (h : Pls H ps R Kn) (n : ∀ q ∈ ps, q ≠ s) (o : Off s H H') : Pls H' ps R Kn := fun i q hq => o _ _ (n q (List.mem_of_getElem? hq)) (h i q hq)
theorem Pls.set {H : Hp} {ps : List Addr} {R Kn : Nat → Int} {i : Nat} {q : Addr} {g k : Int} (h : Pls H ps R Kn) (nd : ps.Nodup) (hq : ps[i]? = some q) : Pls (upd H q (.lst [.int g, .int k])) ps (fun j => if j = i then g else R j) (fun j => if j = i then k else Kn j) := fun j r hr => by
  by_cases e : j = i
  · subst e
    rw [hq] at hr
    cases hr
    rw [upd_same]
    show some (HO.lst [V.int g, V.int k]) = some (.lst [.int (if j = j then g else R j), .int (if j = j then k else Kn j)])
    rw [if_pos rfl, if_pos rfl]
  · have : r ≠ q := fun z => by
      subst z
      exact e ((List.getElem?_inj (List.getElem?_eq_some_iff.mp hr).1 nd).mp (hr.trans hq.symm))
    rw [upd_ne this, h j r hr]
    show _ = some (HO.lst [.int (if j = i then g else R j), .int (if j = i then k else Kn j)])
    rw [if_neg e, if_neg e]
theorem upd_upd {H : Hp} {a : Addr} {x y : HO} : upd (upd H a x) a y = upd H a y := by
  funext b
  unfold upd
  by_cases h : b = a
  · rw [if_pos h, if_pos h]
  · rw [if_neg h, if_neg h, if_neg h]
def sp_kround (Z : Ad) : Sp := fun vs H Q _ => ∃ (st p pl fl : Addr) (t late : Nat) (ps : List Addr) (R Kn : Nat → Int) (L : Int) (n : Nat) (fs : Nat → Int) (ret : Bool) (c : Nat → Int), vs = [.ref st, .ref p, .ref pl, .int (t : Int), .int (late : Int)] ∧ Stk H st ∧ H p = some (.lst [.int L, .ref fl, .bl ret]) ∧ IL H fl n fs ∧ H pl = some (.lst (ps.map V.ref)) ∧ Pls H ps R Kn ∧ ps.Nodup ∧ Nn st ps ∧ Nn p (st :: ps) ∧ Nn fl (st :: ps) ∧ Nn pl (st :: ps) ∧ ROk L n fs c ∧ 1 ≤ t ∧ ps.length ≤ 9 ∧ RI L n fs ret c late ps.length t R Kn (rws L n fs ret c late (t - 1)) ∧
  ∀ (hq : Addr) (hl : List Int) (R' Kn' : Nat → Int) (H' : Hp), H hq = none → Stk H' st → Offs (st :: ps) H H' → Pls H' ps R' Kn' → H' hq = some (.lst (hl.map V.int)) → (∀ b, b < n → (hl.count (b : Int) : Int) = rws L n fs ret c late t b - rws L n fs ret c late (t - 1) b) → (∀ x ∈ hl, ∃ b : Nat, b < n ∧ x = (b : Int)) → hl.length ≤ 100 → RI L n fs ret c late ps.length (t + 1) R' Kn' (rws L n fs ret c late t) → Q (.ref hq) H'
theorem d_law_k29_round (T : Txt K w mg Z) : Dfn P w K mg base 2 "_law_k29_round" ["stock", "plain", "players", "number", "late"] (sp_kround Z) := by
  obtain ⟨f, fd, F, hm, hb⟩ := T.f_law_k29_round
  refine ⟨f, fd, F.ok sc_law_k29_round (fun vs H Q E h => by first | (obtain ⟨rfl, _⟩ := h; rfl) | (obtain ⟨_, rfl, _⟩ := h; rfl) | (obtain ⟨_, _, rfl, _⟩ := h; rfl) | (obtain ⟨_, _, _, rfl, _⟩ := h; rfl) | (obtain ⟨_, _, _, _, rfl, _⟩ := h; rfl) | (obtain ⟨_, _, _, _, _, rfl, _⟩ := h; rfl) | (obtain ⟨_, _, _, _, _, _, rfl, _⟩ := h; rfl) | (obtain ⟨_, _, _, _, _, _, _, rfl, _⟩ := h; rfl) | (obtain ⟨_, _, _, _, _, _, _, _, rfl, _⟩ := h; rfl) | (obtain ⟨_, _, _, _, _, _, _, _, _, rfl, _⟩ := h; rfl) | (obtain ⟨_, _, _, _, _, _, _, _, _, _, rfl, _⟩ := h; rfl) | (obtain ⟨_, _, _, _, _, _, _, _, _, _, _, rfl, _⟩ := h; rfl) | (obtain ⟨_, _, _, _, _, _, _, _, _, _, _, _, rfl, _⟩ := h; rfl) | (obtain ⟨_, _, _, _, _, _, _, _, _, _, _, _, _, rfl, _⟩ := h; rfl) | (obtain ⟨_, _, _, _, _, _, _, _, _, _, _, _, _, _, rfl, _⟩ := h; rfl) | (obtain ⟨_, _, _, _, _, _, _, _, _, _, _, _, _, _, _, rfl, _⟩ := h; rfl) | (obtain ⟨_, _, _, _, _, _, _, _, _, _, _, _, _, _, _, _, rfl, _⟩ := h; rfl)) (fun cdv A outer s H vs Q E hr h => ?_), hm, F.kp, hb⟩
  obtain ⟨st, p, pl, fl, t, late, ps, R, Kn, L, n, fs, ret, c, rfl, hs, hp, hf, hpl, hps, nd, nst, np, nfl, npl, o, t1, m9, hRI, k⟩ := h
  have n0 := o.n0
  have n4 := o.n4
  have l2 := o.l2
  have l6 := o.l6
  obtain ⟨Ln, hLn⟩ : ∃ Ln : Nat, L = (Ln : Int) := ⟨L.toNat, by omega⟩
  subst hLn
  have hf' := hf
  unfold IL at hf'
  have D_law_draw := d_law_draw (P := P) (base := base) T
  refine ⟨_, (pss_cons (ps_set (i := 5) sc_law_k29_round.nd rfl (.inl rfl) (pe_lst pa_nil))
      (pss_cons (ps_for PassesOwn.never rfl (pi_revR (by rfl) T.b_reversed (prg_1 (by rfl) T.b_range (pe_callB call_uLen (by rfl) T.b_len bt_len (pa_cons (pe_ix ix_seq (pv 1) pe_int (fun _ _ => rfl)) pa_nil)))) (pg_name (i := 6) sc_law_k29_round.nd rfl (.inr rfl))
        (pss_cons (ps_setLc (i := 7) (own := [("one", 10)]) (by rfl) sc_law_k29_round.nd rfl rfl (sw_true rfl rfl rfl (by decide +kernel)) (pi_list (pv 2)) (blkOk_by (N := n_law_k29_round) (sc := defScope st_law_k29_round) (by decide +kernel)) (fun _ _ _ _ _ => (pg_name (i := 10) sc_law_k29_round.nd rfl (.inl rfl))) (fun _ _ _ _ _ => (pts_one (PW.pt (pw_and (pt_cmpR (op_uEqK (K := K) rfl hr.units) (pe_ix (ix_seqK (K := K) rfl) (pv 10) pe_int (fun _ _ => rfl)) (pv 6) (nomark _)) (pw_and1 (pt_cmpR op_le (pe_ix (ix_seqK (K := K) rfl) (pv 10) pe_int (fun _ _ => rfl)) (pv 3) (nomark _))))))) (fun _ _ _ _ _ => (pv 10)))
      (pss_one (ps_while PassesOwn.never (pt_cmpR op_ge (pe_callB call_uLen (by rfl) T.b_len bt_len (pa_cons (pv 7) pa_nil)) (pe_ix ix_seq (pv 1) pe_int (fun _ _ => rfl)) (nomark _)) (pss_cons (ps_set (i := 8) sc_law_k29_round.nd rfl (.inl rfl) (pe_dfn D_law_draw (hr.mono (by decide)) (by rfl) (pa_cons (pv 0) (pa_cons (pe_ix ix_seq (pv 1) pe_int (fun _ _ => rfl)) pa_nil))))
      (pss_cons (ps_expr (pe_bm PySem.F.plainAttrs_list PySem.F.slot_list_append PySem.F.type_list_append mt_append (pv 5) (pa_cons (pv 6) pa_nil)))
      (pss_one (ps_for PassesOwn.never rfl (pi_range1 (by rfl) T.b_range (pa_cons (pe_ix ix_seq (pv 1) pe_int (fun _ _ => rfl)) pa_nil)) (pg_name (i := 9) sc_law_k29_round.nd rfl (.inl rfl))
        (pss_cons (ps_set (i := 10) sc_law_k29_round.nd rfl (.inl rfl) (pe_bm0 PySem.F.plainAttrs_list PySem.F.slot_list_pop PySem.F.type_list_pop mt_pop (pv 7)))
      (pss_cons (ps_set (i := 11) sc_law_k29_round.nd rfl (.inl rfl) (pe_ifExp (pt_cmpR (op_uEq hr.units) (pv 9) (pv 8) (nomark _)) (pe_op op_uAdd (pv 6) pe_int) (pe_ix ix_seq (pe_ix ix_seq (pv 1) pe_int (fun _ _ => rfl)) (pv 6) (fun _ _ => rfl))))
      (pss_cons (ps_if (pt_cmpR (op_uEq hr.units) (pv 11) (pe_callB call_uLen (by rfl) T.b_len bt_len (pa_cons (pe_ix ix_seq (pv 1) pe_int (fun _ _ => rfl)) pa_nil)) (nomark _)) (pss_one (ps_set (i := 11) sc_law_k29_round.nd rfl (.inl rfl) (pe_ifExp (pt_u (pe_ix ix_seq (pv 1) pe_int (fun _ _ => rfl))) pe_int (pe_op op_sub pe_int pe_int)))) pss_nil)
      (pss_cons (ps_asg (pv 11) (pg_sub (pv 10) pe_int set_list))
      (pss_one (ps_asg (pe_op op_uAdd (pe_op op_uAdd (pv 3) (pv 4)) pe_int) (pg_sub (pv 10) pe_int set_list)))))))))))))))
      (pss_one (ps_ret (pv 5))))), ?_⟩
  try dsimp only [cxOf, Cx.nox, Cx.wish]
  show (_ : TS) _ [some _, some _, some _, some _, some _, none, none, none, none, none, none, none] _
  o_readsAll
  rename_i hq H1 fhq e1 hhq N hN
  have hp1 := e1 _ _ hp
  have hf1 := e1 _ _ hf'
  o_readsAll
  rw [rng_len]
  o_readsAll
  have nhq : Nn hq (st :: ps) := nn_cons (hs.ne fhq).symm fun q hq' => by
    obtain ⟨i, hi⟩ := List.getElem?_of_mem hq'
    exact (ne_of_none (hps i q hi) fhq).symm
  have nsts : ∀ q ∈ ps, q ≠ st := fun q hq' => (nst q hq').symm
  refine f_rngC (fun j σ' H' => ∃ (R Kn row : Nat → Int) (hl : List Int) (x6 x7 x8 x9 x10 x11 : Option V), σ' = [some (.ref st), some (.ref p), some (.ref pl), some (.int (t : Int)), some (.int (late : Int)), some (.ref hq), x6, x7, x8, x9, x10, x11] ∧ Stk H' st ∧ Offs (st :: ps) H H' ∧ Pls H' ps R Kn ∧ H' hq = some (.lst (hl.map V.int)) ∧ RI (Ln : Int) n fs ret c late ps.length t R Kn row ∧ (∀ b, b < n → n - j ≤ b → row b = rws (Ln : Int) n fs ret c late t b) ∧ (∀ b, b < n - j → row b = rws (Ln : Int) n fs ret c late (t - 1) b) ∧ (∀ b, b < n → (hl.count (b : Int) : Int) = row b - rws (Ln : Int) n fs ret c late (t - 1) b) ∧ (∀ x ∈ hl, ∃ b : Nat, b < n ∧ x = (b : Int)) ∧ hl.length ≤ 9 * j) ⟨R, Kn, _, [], _, _, _, _, _, _, rfl, hs.same e1, (Offs.refl _ _).same e1, hps.same e1, hhq, hRI, fun b hb h => by omega, fun b hb => rfl, fun b hb => by simp, fun x hx => (nomatch hx), by simp⟩ ?_ ?_
  · rintro j σ' H2 hj ⟨R, Kn, row, hl, x6, x7, x8, x9, x10, x11, rfl, s2, o2, P2, hhq2, hRI2, hr1, hr2, hcnt, hmem, hlen⟩
    obtain ⟨a, ha⟩ : ∃ a, n - 1 - j = a := ⟨_, rfl⟩
    have han : a < n := by omega
    have haj : n - j = a + 1 := by omega
    have haj2 : n - (j + 1) = a := by omega
    rw [ha]
    rw [haj] at hr1 hr2
    rw [haj2]
    have hpl2 := o2 _ _ npl hpl
    o_readsAll
    refine l_itF (walk_list (xs := ps.map V.ref)) (fun D i acc H' => acc = ((List.range i).filter fun i => decide (R i = (a : Int)) && decide (Kn i ≤ (t : Int))).map (fun i => V.ref (ps.getD i 0)) ∧ Same H2 H') (fun D hD => ⟨rfl, Eg.Same.put (Same.refl _) hD⟩) (fun D i acc H' hD hi h pv => .of (pv.2 _ _ hpl2)) (fun D i x acc H3 H' hD hi e pv y => ?_) (fun fr acc H' hD e pv => ?_)
    · obtain ⟨y1, y2⟩ := y
      obtain ⟨rfl, e3⟩ := pv
      subst y1
      rw [List.getElem?_map] at y2
      obtain ⟨q, hq1, rfl⟩ := Option.map_eq_some_iff.mp y2
      have hi' : i < ps.length := (List.getElem?_eq_some_iff.mp hq1).1
      have hqd : ps.getD i 0 = q := by rw [List.getD_eq_getElem?_getD, hq1]; rfl
      have hq3 := e3 _ _ (P2 i q hq1)
      refine ⟨rfl, ?_⟩
      o_readsAll
      refine and_j (d := decide (Kn i ≤ (t : Int))) (fun h Q' hQ' => ?_) (fun H4 e4 => ?_)
      · o_readsAll
        exact hQ' _ (Same.refl _)
      · refine brB (fun hb => ?_) (fun hb => ?_)
        · o_readsAll
          refine ⟨_, e4 _ _ e, by rw [List.length_map, sizeLine_eq]; have := List.length_filter_le (fun i => decide (R i = (a : Int)) && decide (Kn i ≤ (t : Int))) (List.range i); rw [List.length_range] at this; omega, ?_, Eg.Same.put (e3.trans e4) hD⟩
          rw [List.range_succ, List.filter_append, List.map_append]
          simp only [List.filter_cons, hb, if_true, List.filter_nil, List.map_cons, List.map_nil, hqd]
        · refine ⟨_, e4 _ _ e, ?_, e3.trans e4⟩
          rw [List.range_succ, List.filter_append, List.map_append]
          simp only [List.filter_cons, hb, Bool.false_eq_true, if_false, List.filter_nil, List.map_nil, List.append_nil]
    · obtain ⟨rfl, e3⟩ := pv
      rw [List.length_map] at e
      generalize hix : (List.range ps.length).filter (fun i => decide (R i = (a : Int)) && decide (Kn i ≤ (t : Int))) = ix at *
      have hixm : ∀ i ∈ ix, i < ps.length ∧ R i = (a : Int) ∧ Kn i ≤ (t : Int) := fun i hi => by
        rw [← hix] at hi
        obtain ⟨h1, h2⟩ := List.mem_filter.mp hi
        rw [Bool.and_eq_true, decide_eq_true_eq, decide_eq_true_eq] at h2
        exact ⟨List.mem_range.mp h1, h2⟩
      have hixd : ix.Nodup := by rw [← hix]; exact List.Pairwise.sublist List.filter_sublist List.nodup_range
      have hixl : ix.length ≤ 9 := by
        rw [← hix]
        have := List.length_filter_le (fun i => decide (R i = (a : Int)) && decide (Kn i ≤ (t : Int))) (List.range ps.length)
        rw [List.length_range] at this
        omega
      have hfree : (ix.length : Int) = c a + arr (Ln : Int) n fs ret (rws (Ln : Int) n fs ret c late (t - 1 - late)) a - (Ln : Int) * row a := by
        rw [← hRI2.free t1 han, ← hix, len_filter]
        exact sm_congr fun i hi => by
          by_cases h : R i = (a : Int) ∧ Kn i ≤ (t : Int)
          · rw [if_pos h, if_pos (by rw [decide_eq_true h.1, decide_eq_true h.2]; rfl)]
          · rw [if_neg h, if_neg (fun z => h (by rw [Bool.and_eq_true, decide_eq_true_eq, decide_eq_true_eq] at z; exact z))]
      have s3 := s2.same e3
      have nfr : Nn fr (st :: ps) := nn_cons (s2.ne hD).symm fun q hq' => by
        obtain ⟨i, hi⟩ := List.getElem?_of_mem hq'
        exact (ne_of_none (P2 i q hi) hD).symm
      have ffr : H fr = none := Offs.free hD o2 nfr
      have nhf : hq ≠ fr := ne_of_none hhq2 hD
      o_readsAll
      refine ⟨fun μ σ' H' => ∃ (kk : Nat) (R2 Kn2 row2 : Nat → Int) (hl2 : List Int) (x8 x9 x10 x11 : Option V), σ' = [some (.ref st), some (.ref p), some (.ref pl), some (.int (t : Int)), some (.int (late : Int)), some (.ref hq), some (.int (a : Int)), some (.ref fr), x8, x9, x10, x11] ∧ Stk H' st ∧ Offs (st :: ps) H H' ∧ Pls H' ps R2 Kn2 ∧ H' hq = some (.lst (hl2.map V.int)) ∧ H' fr = some (.lst ((ix.take kk).map fun i => V.ref (ps.getD i 0))) ∧ kk ≤ ix.length ∧ μ = kk ∧ (∀ i ∈ ix.take kk, R2 i = (a : Int) ∧ Kn2 i ≤ (t : Int)) ∧ RI (Ln : Int) n fs ret c late ps.length t R2 Kn2 row2 ∧ (kk : Int) = c a + arr (Ln : Int) n fs ret (rws (Ln : Int) n fs ret c late (t - 1 - late)) a - (Ln : Int) * row2 a ∧ (∀ b, b ≠ a → row2 b = row b) ∧ (∀ b, b < n → (hl2.count (b : Int) : Int) = row2 b - rws (Ln : Int) n fs ret c late (t - 1) b) ∧ (∀ x ∈ hl2, ∃ b : Nat, b < n ∧ x = (b : Int)) ∧ hl2.length + kk ≤ 9 * j + ix.length, ⟨ix.length, ix.length, R, Kn, row, hl, _, _, _, _, rfl, s3, o2.same e3, P2.same e3, e3 _ _ hhq2, by rw [List.take_length]; exact e, Nat.le_refl _, rfl, fun i hi => (hixm i (List.mem_of_mem_take hi)).2, hRI2, hfree, fun _ _ => rfl, hcnt, hmem, by omega⟩, ?_⟩
      rintro μ σ' H4 ⟨kk, R2, Kn2, row2, hl2, x8, x9, x10, x11, rfl, s4, o4, P4, hhq4, hfr4, hkk, hμ, hft, hRI4, hfree4, hrow4, hcnt4, hmem4, hlen4⟩
      have hp4 := o4 _ _ np hp
      have hf4 := o4 _ _ nfl hf'
      o_readsAll
      rw [List.length_map, List.length_take, show min kk ix.length = kk by omega]
      refine br (fun hc => ?_) (fun hc => ?_)
      · refine ⟨_, fun σ2 H2 h => h, ?_⟩
        o_readsAll
        refine c_draw (by omega) (by omega) s4 fun wv H5 w0 w1 s5 o5 => ?_
        obtain ⟨w', rfl⟩ : ∃ w' : Nat, wv = (w' : Int) := ⟨wv.toNat, by omega⟩
        have nhst : hq ≠ st := nhq st (List.mem_cons_self)
        have nfst : fr ≠ st := nfr st (List.mem_cons_self)
        have hhq5 := o5 _ _ nhst hhq4
        have hfr5 := o5 _ _ nfst hfr4
        have P5 := P4.off nsts o5
        have o05 := o4.off List.mem_cons_self o5
        have hp5 := o05 _ _ np hp
        have hsz : (hl2.map V.int).length < sizeLine := by rw [List.length_map, sizeLine_eq]; omega
        have hp6 : (upd H5 hq (.lst (hl2.map V.int ++ [.int (a : Int)]))) p = some (.lst [.int (Ln : Int), .ref fl, .bl ret]) := by rw [upd_ne (ne_of_none hp fhq)]; exact hp5
        have hhq6 : (upd H5 hq (.lst (hl2.map V.int ++ [.int (a : Int)]))) hq = some (.lst ((hl2 ++ [(a : Int)]).map V.int)) := by rw [upd_same, List.map_append]; rfl
        have s6 : Stk (upd H5 hq (.lst (hl2.map V.int ++ [.int (a : Int)]))) st := s5.put nhst.symm
        have o06 : Offs (st :: ps) H (upd H5 hq (.lst (hl2.map V.int ++ [.int (a : Int)]))) := o05.putN fhq
        have P6 : Pls (upd H5 hq (.lst (hl2.map V.int ++ [.int (a : Int)]))) ps R2 Kn2 := P5.off (fun q hq' z => nhq q (List.mem_cons_of_mem _ hq') z.symm) (off_refl _ _).upd
        have hfr6 : (upd H5 hq (.lst (hl2.map V.int ++ [.int (a : Int)]))) fr = some (.lst ((ix.take kk).map fun i => V.ref (ps.getD i 0))) := by rw [upd_ne nhf.symm]; exact hfr5
        o_readsAll
        generalize upd H5 hq (.lst (hl2.map V.int ++ [.int (a : Int)])) = H6 at *
        clear hfr5 hhq5 P5 o05 hp5 hfr4 hhq4 P4 o4 s4 s5 o5 hp4 hf4
        rw [Int.toNat_natCast]
        refine f_rng (fun q σ' H' => ∃ (R3 Kn3 : Nat → Int) (x9 x10 x11 : Option V), σ' = [some (.ref st), some (.ref p), some (.ref pl), some (.int (t : Int)), some (.int (late : Int)), some (.ref hq), some (.int (a : Int)), some (.ref fr), some (.int (w' : Int)), x9, x10, x11] ∧ Stk H' st ∧ Offs (st :: ps) H H' ∧ Pls H' ps R3 Kn3 ∧ H' hq = some (.lst ((hl2 ++ [(a : Int)]).map V.int)) ∧ H' fr = some (.lst ((ix.take (kk - q)).map fun i => V.ref (ps.getD i 0))) ∧ (∀ i ∈ ix.take (kk - q), R3 i = (a : Int) ∧ Kn3 i ≤ (t : Int)) ∧ (∀ b, b < n → ∀ T : Nat, t ≤ T → cnt R3 Kn3 ps.length (b : Int) T = cnt R2 Kn2 ps.length (b : Int) T - (if b = a then (q : Int) else 0) + (if t + late + 1 ≤ T then sm (fun q' => if goes n fs ret a (decide (q' = w')) = (b : Int) then 1 else 0) q else 0))) ⟨R2, Kn2, _, _, _, rfl, s6, o06, P6, hhq6, hfr6, hft, fun b hb T hT => by
          show _ = _ - (if b = a then (0 : Int) else 0) + (if t + late + 1 ≤ T then (0 : Int) else 0)
          split <;> split <;> omega⟩ ?_ ?_
        · rintro q σ' H7 hq7 ⟨R3, Kn3, x9, x10, x11, rfl, s7, o7, P7, hhq7, hfr7, hft7, hc7⟩
          rw [Int.zero_add]
          obtain ⟨k', hk'⟩ : ∃ k', kk - q = k' + 1 := ⟨kk - q - 1, by omega⟩
          rw [hk'] at hfr7 hft7
          obtain ⟨i, hi⟩ : ∃ i, ix[k']? = some i := ⟨_, List.getElem?_eq_getElem (by omega)⟩
          obtain ⟨him, -, -⟩ := hixm i (List.mem_of_getElem? hi)
          obtain ⟨one, hone⟩ : ∃ one, ps[i]? = some one := ⟨_, List.getElem?_eq_getElem him⟩
          have honed : ps.getD i 0 = one := by rw [List.getD_eq_getElem?_getD, hone]; rfl
          have hone7 := P7 i one hone
          have nof : one ≠ fr := fun z => nfr one (List.mem_cons_of_mem _ (List.mem_of_getElem? hone)) z.symm
          have noh : one ≠ hq := fun z => nhq one (List.mem_cons_of_mem _ (List.mem_of_getElem? hone)) z.symm
          have nost : one ≠ st := nsts one (List.mem_of_getElem? hone)
          have hp7 := o7 _ _ np hp
          have hf7 := o7 _ _ nfl hf'
          o_readsAll
          refine ⟨fr, _, .ref one, rfl, rfl, hfr7, ?_, ?_⟩
          · rw [List.length_map, List.getElem?_map, take_last ix (by omega), hi]
            show some (V.ref (ps.getD i 0)) = _
            rw [honed]
          rw [← List.map_dropLast, take_pop ix (by omega)]
          have s8 : Stk (upd H7 fr (.lst ((ix.take k').map fun i => V.ref (ps.getD i 0)))) st := s7.put nfst.symm
          have o8 : Offs (st :: ps) H (upd H7 fr (.lst ((ix.take k').map fun i => V.ref (ps.getD i 0)))) := o7.putN ffr
          have P8 : Pls (upd H7 fr (.lst ((ix.take k').map fun i => V.ref (ps.getD i 0)))) ps R3 Kn3 := P7.off (fun q hq' z => nfr q (List.mem_cons_of_mem _ hq') z.symm) (off_refl _ _).upd
          have hone8 : (upd H7 fr (.lst ((ix.take k').map fun i => V.ref (ps.getD i 0)))) one = some (.lst [.int (R3 i), .int (Kn3 i)]) := by rw [upd_ne nof]; exact hone7
          have hp8 : (upd H7 fr (.lst ((ix.take k').map fun i => V.ref (ps.getD i 0)))) p = _ := o8 _ _ np hp
          have hf8 : (upd H7 fr (.lst ((ix.take k').map fun i => V.ref (ps.getD i 0)))) fl = _ := o8 _ _ nfl hf'
          have hhq8 : (upd H7 fr (.lst ((ix.take k').map fun i => V.ref (ps.getD i 0)))) hq = some (.lst ((hl2 ++ [(a : Int)]).map V.int)) := by rw [upd_ne nhf]; exact hhq7
          have hfr8 : (upd H7 fr (.lst ((ix.take k').map fun i => V.ref (ps.getD i 0)))) fr = some (.lst ((ix.take k').map fun i => V.ref (ps.getD i 0))) := upd_same
          generalize upd H7 fr (.lst ((ix.take k').map fun i => V.ref (ps.getD i 0))) = H8 at *
          clear hfr7 hone7 hhq7 P7 o7 s7 hp7 hf7
          o_readsAll
          refine jnE (fun x H' => x = .int (if q = w' then (a : Int) + 1 else fs a) ∧ H' = H8) ?_ (fun Q' hQ => br (fun h => ?_) (fun h => ?_))
          · rintro x G ⟨rfl, hG⟩
            rw [hG]
            clear hG
            o_readsAll
            rw [rng_len]
            have okf := o.ok a
            have himem : i ∈ ix.take (k' + 1) := List.mem_of_getElem? (i := k') (by rw [List.getElem?_take, if_pos (Nat.lt_succ_self _)]; exact hi)
            obtain ⟨hRi, hKi⟩ := hft7 i himem
            have hlt7 : ∀ i' ∈ ix.take k', i' ≠ i ∧ i' ∈ ix.take (k' + 1) := fun i' hi' => by
              obtain ⟨z, hz⟩ := List.getElem?_of_mem hi'
              rw [List.getElem?_take] at hz
              split at hz
              · refine ⟨fun e => ?_, List.mem_of_getElem? (i := z) (by rw [List.getElem?_take, if_pos (by omega)]; exact hz)⟩
                rw [e] at hz
                have := (List.getElem?_inj (List.getElem?_eq_some_iff.mp hz).1 hixd).mp (hz.trans hi.symm)
                omega
              · cases hz
            have hgoes : ∀ g : Int, g = goes n fs ret a (decide (q = w')) → ∀ G, G = upd H8 one (.lst [.int g, .int ((t : Int) + (late : Int) + 1)]) → ∃ (R3 Kn3 : Nat → Int) (x9 x10 x11 : Option V), [some (.ref st), some (.ref p), some (.ref pl), some (.int (t : Int)), some (.int (late : Int)), some (.ref hq), some (.int (a : Int)), some (.ref fr), some (.int (w' : Int)), some (.int (q : Int)), some (.ref one), some (.int g)] = [some (.ref st), some (.ref p), some (.ref pl), some (.int (t : Int)), some (.int (late : Int)), some (.ref hq), some (.int (a : Int)), some (.ref fr), some (.int (w' : Int)), x9, x10, x11] ∧ Stk G st ∧ Offs (st :: ps) H G ∧ Pls G ps R3 Kn3 ∧ G hq = some (.lst ((hl2 ++ [(a : Int)]).map V.int)) ∧ G fr = some (.lst ((ix.take (kk - (q + 1))).map fun i => V.ref (ps.getD i 0))) ∧ (∀ i ∈ ix.take (kk - (q + 1)), R3 i = (a : Int) ∧ Kn3 i ≤ (t : Int)) ∧ (∀ b, b < n → ∀ T : Nat, t ≤ T → cnt R3 Kn3 ps.length (b : Int) T = cnt R2 Kn2 ps.length (b : Int) T - (if b = a then ((q + 1 : Nat) : Int) else 0) + (if t + late + 1 ≤ T then sm (fun q' => if goes n fs ret a (decide (q' = w')) = (b : Int) then 1 else 0) (q + 1) else 0)) := by
              intro g hg G hG
              rw [show kk - (q + 1) = k' by omega]
              refine ⟨fun j => if j = i then g else R3 j, fun j => if j = i then (t : Int) + (late : Int) + 1 else Kn3 j, _, _, _, rfl, ?_, ?_, ?_, ?_, ?_, fun i' hi' => ?_, fun b hb T hT => ?_⟩
              · rw [hG]; exact s8.put nost.symm
              · rw [hG]; exact o8.put (List.mem_cons_of_mem _ (List.mem_of_getElem? hone))
              · rw [hG]; exact P8.set nd hone
              · rw [hG, upd_ne noh.symm]; exact hhq8
              · rw [hG, upd_ne nof.symm]; exact hfr8
              · obtain ⟨h1, h2⟩ := hlt7 i' hi'
                show (if i' = i then g else R3 i') = (a : Int) ∧ (if i' = i then (t : Int) + (late : Int) + 1 else Kn3 i') ≤ (t : Int)
                rw [if_neg h1, if_neg h1]
                exact hft7 i' h2
              · rw [cnt_set him, hc7 b hb T hT, sm, hRi, ← hg]
                have e1 : (if (a : Int) = (b : Int) ∧ Kn3 i ≤ (T : Int) then (1 : Int) else 0) = if b = a then 1 else 0 := by
                  by_cases hba : b = a
                  · rw [if_pos hba, if_pos ⟨by omega, by omega⟩]
                  · rw [if_neg hba, if_neg (fun z => hba (by omega))]
                have e2 : (if g = (b : Int) ∧ (t : Int) + (late : Int) + 1 ≤ (T : Int) then (1 : Int) else 0) = if t + late + 1 ≤ T then (if g = (b : Int) then 1 else 0) else 0 := by
                  by_cases h1 : t + late + 1 ≤ T
                  · rw [if_pos h1]
                    by_cases h2 : g = (b : Int)
                    · rw [if_pos h2, if_pos ⟨h2, by omega⟩]
                    · rw [if_neg h2, if_neg (fun z => h2 z.1)]
                  · rw [if_neg h1, if_neg (fun z => h1 (by omega))]
                rw [e1, e2]
                generalize (if g = (b : Int) then (1 : Int) else 0) = u
                generalize sm (fun q' => if goes n fs ret a (decide (q' = w')) = (b : Int) then (1 : Int) else 0) q = v
                generalize cnt R2 Kn2 ps.length (b : Int) T = y
                split <;> split <;> omega
            refine jnS (fun (σ' : L2.St) (H' : Hp) => σ' = [some (.ref st), some (.ref p), some (.ref pl), some (.int (t : Int)), some (.int (late : Int)), some (.ref hq), some (.int (a : Int)), some (.ref fr), some (.int (w' : Int)), some (.int (q : Int)), some (.ref one), some (.int (goes n fs ret a (decide (q = w'))))] ∧ H' = H8) ?_ (fun N2 hN2 => br (fun h => ?_) (fun h => ?_))
            · rintro σ' G ⟨rfl, hG⟩
              rw [hG]
              clear hG
              o_readsAll
              exact hgoes _ rfl _ upd_upd
            · have hqw : q = w' := by
                by_cases e : q = w'
                · exact e
                · rw [if_neg e] at h
                  omega
              rw [if_pos hqw] at h
              o_readsAll
              refine brB (fun hret => ?_) (fun hret => ?_)
              · o_readsAll
                refine ⟨?_, rfl⟩
                have hg : goes n fs ret a (decide (q = w')) = 0 := by
                  rw [decide_eq_true hqw]
                  show (if a + 1 = n then (if ret then (0 : Int) else 0 - 1) else (a : Int) + 1) = 0
                  rw [if_pos (show a + 1 = n by omega), hret]
                  rfl
                rw [hg]
                rfl
              · o_readsAll
                refine ⟨?_, rfl⟩
                have hg : goes n fs ret a (decide (q = w')) = (0 - 1) := by
                  rw [decide_eq_true hqw]
                  show (if a + 1 = n then (if ret then (0 : Int) else 0 - 1) else (a : Int) + 1) = (0 - 1)
                  rw [if_pos (show a + 1 = n by omega), hret]
                  rfl
                rw [hg]
                rfl
            · o_readsAll
              refine ⟨?_, rfl⟩
              by_cases hqw : q = w'
              · rw [if_pos hqw] at h
                have hg : goes n fs ret a (decide (q = w')) = (a : Int) + 1 := by
                  rw [decide_eq_true hqw]
                  show (if a + 1 = n then (if ret then (0 : Int) else 0 - 1) else (a : Int) + 1) = (a : Int) + 1
                  rw [if_neg (show ¬ a + 1 = n by omega)]
                rw [if_pos hqw, hg]
                rfl
              · rw [if_neg hqw, decide_eq_false hqw]
                rfl
          · o_readsAll
            exact hQ _ _ ⟨by rw [if_pos (by omega)], rfl⟩
          · o_readsAll
            refine g_ixL (.of hf8) (atI_nat (rng_at han)) ?_
            exact hQ _ _ ⟨by rw [if_neg (by omega)], rfl⟩
        · rintro σ' H7 ⟨R3, Kn3, x9, x10, x11, rfl, s7, o7, P7, hhq7, hfr7, hft7, hc7⟩
          refine ⟨kk - Ln, by omega, kk - Ln, R3, Kn3, fun e => if e = a then row2 e + 1 else row2 e, hl2 ++ [(a : Int)], _, _, _, _, rfl, s7, o7, P7, hhq7, hfr7, by omega, rfl, hft7, ?_, ?_, fun b hb => by show (if b = a then _ else _) = _; rw [if_neg hb]; exact hrow4 b hb, fun b hb => ?_, fun x hx => ?_, ?_⟩
          · refine hRI4.meet han fun b hb T hT => ?_
            rw [hc7 b hb T hT, goes_all han hb (by omega)]
          · show ((kk - Ln : Nat) : Int) = _ - (Ln : Int) * (if a = a then row2 a + 1 else row2 a)
            rw [if_pos rfl, Int.mul_add, Int.mul_one]
            omega
          · rw [List.count_append, Int.natCast_add, hcnt4 b hb]
            show _ = (if b = a then row2 b + 1 else row2 b) - _
            by_cases hba : b = a
            · subst hba
              rw [if_pos rfl, List.count_singleton_self]
              omega
            · rw [if_neg hba, List.count_singleton, show ((a : Int) == (b : Int)) = false from beq_false_of_ne (by omega)]
              simp
          · rcases List.mem_append.mp hx with h | h
            · exact hmem4 x h
            · exact ⟨a, han, List.mem_singleton.mp h⟩
          · rw [List.length_append, List.length_singleton]
            omega
      · have hrow : row2 a = rws (Ln : Int) n fs ret c late t a := by
          rw [show t = (t - 1) + 1 by omega, rws_succ]
          exact fl_div (by omega) (by rw [← hfree4]; omega) (by rw [← hfree4]; omega)
        exact ⟨R2, Kn2, row2, hl2, _, _, _, _, _, _, rfl, s4, o4, P4, hhq4, hRI4, fun b hb h => by
          by_cases hba : b = a
          · rw [hba]; exact hrow
          · rw [hrow4 b hba]; exact hr1 b hb (by omega), fun b hb => by rw [hrow4 b (by omega)]; exact hr2 b (by omega), hcnt4, hmem4, by omega⟩
  · rintro σ' H2 ⟨R, Kn, row, hl, x6, x7, x8, x9, x10, x11, rfl, s2, o2, P2, hhq2, hRI2, hr1, hr2, hcnt, hmem, hlen⟩
    have hr : ∀ b, b < n → row b = rws (Ln : Int) n fs ret c late t b := fun b hb => hr1 b hb (by omega)
    o_readsAll
    exact k hq hl R Kn H2 fhq s2 o2 P2 hhq2 (fun b hb => by rw [hcnt b hb, hr b hb]) hmem (by omega) (hRI2.next hr t1)
end
end L29

namespace L29
set_option exponentiation.threshold 9000
open SX Ld Rd
section
variable {P : Program} {w : World} {K : PySem.W.Frag} {mg : Str → Option Value} {base : Heap} {Z : Ad}
theorem c_kround {st p pl fl : Addr} {t late : Nat} {ps : List Addr} {R Kn : Nat → Int} {L : Int} {n : Nat} {fs : Nat → Int} {ret : Bool} {c : Nat → Int} {H : Hp} {Q : VK} {E : XK} (hs : Stk H st) (hp : H p = some (.lst [.int L, .ref fl, .bl ret])) (hf : IL H fl n fs) (hpl : H pl = some (.lst (ps.map V.ref))) (hps : Pls H ps R Kn) (nd : ps.Nodup) (nst : Nn st ps) (np : Nn p (st :: ps)) (nfl : Nn fl (st :: ps)) (npl : Nn pl (st :: ps)) (o : ROk L n fs c) (t1 : 1 ≤ t) (m9 : ps.length ≤ 9) (hRI : RI L n fs ret c late ps.length t R Kn (rws L n fs ret c late (t - 1)))
  (k : ∀ (hq : Addr) (hl : List Int) (R' Kn' : Nat → Int) (H' : Hp), H hq = none → Stk H' st → Offs (st :: ps) H H' → Pls H' ps R' Kn' → H' hq = some (.lst (hl.map V.int)) → (∀ b, b < n → (hl.count (b : Int) : Int) = rws L n fs ret c late t b - rws L n fs ret c late (t - 1) b) → (∀ x ∈ hl, ∃ b : Nat, b < n ∧ x = (b : Int)) → hl.length ≤ 100 → RI L n fs ret c late ps.length (t + 1) R' Kn' (rws L n fs ret c late t) → Q (.ref hq) H') : sp_kround Z [.ref st, .ref p, .ref pl, .int (t : Int), .int (late : Int)] H Q E := ⟨st, p, pl, fl, t, late, ps, R, Kn, L, n, fs, ret, c, rfl, hs, hp, hf, hpl, hps, nd, nst, np, nfl, npl, o, t1, m9, hRI, k⟩
theorem Pls.snoc {H : Hp} {ps : List Addr} {R Kn : Nat → Int} {q : Addr} {g k : Int} (h : Pls H ps R Kn) (hq : H q = some (.lst [.int g, .int k])) : Pls H (ps ++ [q]) (fun j => if j = ps.length then g else R j) (fun j => if j = ps.length then k else Kn j) := fun j r hr => by
  by_cases e : j < ps.length
  · rw [List.getElem?_append_left e] at hr
    show _ = some (HO.lst [.int (if j = ps.length then g else R j), .int (if j = ps.length then k else Kn j)])
    rw [if_neg (by omega), if_neg (by omega)]
    exact h j r hr
  · rw [List.getElem?_append_right (by omega)] at hr
    have e0 : j = ps.length := by
      by_cases h0 : j = ps.length
      · exact h0
      · rw [List.getElem?_eq_none (by simp; omega)] at hr
        cases hr
    subst e0
    rw [Nat.sub_self] at hr
    cases hr
    show _ = some (HO.lst [.int (if ps.length = ps.length then g else R ps.length), .int (if ps.length = ps.length then k else Kn ps.length)])
    rw [if_pos rfl, if_pos rfl]
    exact hq
def sp_knamed (Z : Ad) : Sp := fun vs H Q _ => ∃ (st p cq fl : Addr) (m late : Nat) (L : Int) (n : Nat) (fs : Nat → Int) (ret : Bool) (c : Nat → Int), vs = [.ref st, .ref p, .ref cq, .int (m : Int), .int (late : Int)] ∧ Stk H st ∧ H p = some (.lst [.int L, .ref fl, .bl ret]) ∧ IL H fl n fs ∧ IL H cq n c ∧ st ≠ p ∧ st ≠ fl ∧ st ≠ cq ∧ ROk L n fs c ∧ (∀ i, i ≤ n → sm c i ≤ 9) ∧ m ≤ 100 ∧ ∀ q rs H', H q = none → Stk H' st → Off st H H' → H' q = some (.lst (rs.map V.ref)) → rs.length = m → RowsN H' rs n (fun t => rws L n fs ret c late (t + 1)) → (∀ r ∈ rs, H r = none) → Q (.ref q) H'
theorem d_law_k29_named (T : Txt K w mg Z) : Dfn P w K mg base 3 "_law_k29_named" ["stock", "plain", "counts", "rounds", "late"] (sp_knamed Z) := by
  obtain ⟨f, fd, F, hm, hb⟩ := T.f_law_k29_named
  refine ⟨f, fd, F.ok sc_law_k29_named (fun vs H Q E h => by first | (obtain ⟨rfl, _⟩ := h; rfl) | (obtain ⟨_, rfl, _⟩ := h; rfl) | (obtain ⟨_, _, rfl, _⟩ := h; rfl) | (obtain ⟨_, _, _, rfl, _⟩ := h; rfl) | (obtain ⟨_, _, _, _, rfl, _⟩ := h; rfl) | (obtain ⟨_, _, _, _, _, rfl, _⟩ := h; rfl) | (obtain ⟨_, _, _, _, _, _, rfl, _⟩ := h; rfl) | (obtain ⟨_, _, _, _, _, _, _, rfl, _⟩ := h; rfl) | (obtain ⟨_, _, _, _, _, _, _, _, rfl, _⟩ := h; rfl) | (obtain ⟨_, _, _, _, _, _, _, _, _, rfl, _⟩ := h; rfl) | (obtain ⟨_, _, _, _, _, _, _, _, _, _, rfl, _⟩ := h; rfl) | (obtain ⟨_, _, _, _, _, _, _, _, _, _, _, rfl, _⟩ := h; rfl) | (obtain ⟨_, _, _, _, _, _, _, _, _, _, _, _, rfl, _⟩ := h; rfl) | (obtain ⟨_, _, _, _, _, _, _, _, _, _, _, _, _, rfl, _⟩ := h; rfl) | (obtain ⟨_, _, _, _, _, _, _, _, _, _, _, _, _, _, rfl, _⟩ := h; rfl) | (obtain ⟨_, _, _, _, _, _, _, _, _, _, _, _, _, _, _, rfl, _⟩ := h; rfl) | (obtain ⟨_, _, _, _, _, _, _, _, _, _, _, _, _, _, _, _, rfl, _⟩ := h; rfl)) (fun cdv A outer s H vs Q E hr h => ?_), hm, F.kp, hb⟩
  obtain ⟨st, p, cq, fl, m, late, L, n, fs, ret, c, rfl, hs, hp, hf, hc, np, nf, nc, o, hS, hm, k⟩ := h
  have n0 := o.n0
  have n4 := o.n4
  have hc' := hc
  have hf' := hf
  unfold IL at hc' hf'
  have D_law_k29_round := d_law_k29_round (P := P) (base := base) T
  refine ⟨_, (pss_cons (ps_set (i := 5) sc_law_k29_named.nd rfl (.inl rfl) (pe_lst pa_nil))
      (pss_cons (ps_for PassesOwn.never rfl (pi_range1 (by rfl) T.b_range (pa_cons (pe_callB call_uLen (by rfl) T.b_len bt_len (pa_cons (pv 2) pa_nil)) pa_nil)) (pg_name (i := 6) sc_law_k29_named.nd rfl (.inl rfl))
        (pss_one (ps_for PassesOwn.never rfl (pi_range1 (by rfl) T.b_range (pa_cons (pe_ix ix_seq (pv 2) (pv 6) (fun _ _ => rfl)) pa_nil)) (pg_name (i := 7) sc_law_k29_named.nd rfl (.inl rfl))
        (pss_one (ps_expr (pe_bm PySem.F.plainAttrs_list PySem.F.slot_list_append PySem.F.type_list_append mt_append (pv 5) (pa_cons (pe_lst (pa_cons (pv 6) (pa_cons pe_int pa_nil))) pa_nil)))))))
      (pss_cons (ps_setLc (i := 8) (own := [("a", 6)]) (by rfl) sc_law_k29_named.nd rfl rfl (sw_true rfl rfl rfl (by decide +kernel)) (pi_list (pv 2)) (blkOk_by (N := n_law_k29_named) (sc := defScope st_law_k29_named) (by decide +kernel)) (fun _ _ _ _ _ => (pg_name (i := 6) sc_law_k29_named.nd rfl (.inl rfl))) (fun _ _ _ _ _ => pts_nil) (fun _ _ _ _ _ => pe_int))
      (pss_cons (ps_set (i := 9) sc_law_k29_named.nd rfl (.inl rfl) (pe_lst pa_nil))
      (pss_cons (ps_for PassesOwn.never rfl (pi_range2 (by rfl) T.b_range (pa_cons pe_int (pa_cons (pe_op op_uAdd (pv 3) pe_int) pa_nil))) (pg_name (i := 10) sc_law_k29_named.nd rfl (.inl rfl))
        (pss_cons (ps_for PassesOwn.never rfl (pi_list (pe_dfn D_law_k29_round (hr.mono (by decide)) (by rfl) (pa_cons (pv 0) (pa_cons (pv 1) (pa_cons (pv 5) (pa_cons (pv 10) (pa_cons (pv 4) pa_nil))))))) (pg_name (i := 6) sc_law_k29_named.nd rfl (.inl rfl))
        (pss_one (ps_augS (pv 8) (pv 6) get_list pe_int ip_add set_list)))
      (pss_one (ps_expr (pe_bm PySem.F.plainAttrs_list PySem.F.slot_list_append PySem.F.type_list_append mt_append (pv 9) (pa_cons (pe_callTy call_uList (by rfl) T.b_list bt_list (pa_cons (pv 8) pa_nil)) pa_nil))))))
      (pss_one (ps_ret (pv 9)))))))), ?_⟩
  try dsimp only [cxOf, Cx.nox, Cx.wish]
  show (_ : TS) _ [some _, some _, some _, some _, some _, none, none, none, none, none, none] _
  o_readsAll
  rename_i pl H1 fpl e1 hpl1 N hN
  have hc1 := e1 _ _ hc'
  o_readsAll
  rw [rng_len]
  refine f_rng (fun i σ' H' => ∃ (ps : List Addr) (R : Nat → Int) (x6 x7 : Option V), σ' = [some (.ref st), some (.ref p), some (.ref cq), some (.int (m : Int)), some (.int (late : Int)), some (.ref pl), x6, x7, none, none, none] ∧ Same H H' ∧ H' pl = some (.lst (ps.map V.ref)) ∧ Pls H' ps R (fun _ => 0) ∧ ps.Nodup ∧ (∀ q ∈ ps, H q = none ∧ q ≠ pl) ∧ (ps.length : Int) = sm c i ∧ ∀ b : Nat, sm (fun j => if R j = (b : Int) then 1 else 0) ps.length = if b < i then c b else 0) ⟨[], fun _ => 0, _, _, rfl, e1, hpl1, (by intro i q hq; cases hq), List.nodup_nil, (by intro q hq; cases hq), rfl, (by intro b; rw [if_neg (Nat.not_lt_zero b)]; rfl)⟩ ?_ ?_
  · rintro i σ' H2 hi ⟨ps, R, x6, x7, rfl, e2, hpl2, P2, nd, hfr, hlen, hsum⟩
    rw [Int.toNat_natCast] at hi
    rw [Int.zero_add]
    have c0 := o.c0 i hi
    obtain ⟨ci, hci⟩ : ∃ ci : Nat, c i = (ci : Int) := ⟨(c i).toNat, by omega⟩
    have hS1 := hS (i + 1) (by omega)
    rw [sm, hci] at hS1
    o_readsAll
    refine g_ixL (hc.same e2).sq (atI_nat (rng_at hi)) ?_
    rw [hci]
    o_readsAll
    rw [Int.toNat_natCast]
    refine f_rng (fun d σ' H' => ∃ (ps : List Addr) (R : Nat → Int) (x7 : Option V), σ' = [some (.ref st), some (.ref p), some (.ref cq), some (.int (m : Int)), some (.int (late : Int)), some (.ref pl), some (.int (i : Int)), x7, none, none, none] ∧ Same H H' ∧ H' pl = some (.lst (ps.map V.ref)) ∧ Pls H' ps R (fun _ => 0) ∧ ps.Nodup ∧ (∀ q ∈ ps, H q = none ∧ q ≠ pl) ∧ (ps.length : Int) = sm c i + (d : Int) ∧ ∀ b : Nat, sm (fun j => if R j = (b : Int) then 1 else 0) ps.length = (if b < i then c b else 0) + (if b = i then (d : Int) else 0)) ⟨ps, R, _, rfl, e2, hpl2, P2, nd, hfr, by show _ = _ + (0 : Int); omega, fun b => by rw [hsum b]; show _ = _ + (if b = i then (0 : Int) else 0); split <;> split <;> omega⟩ ?_ ?_
    · rintro d σ' H3 hd ⟨ps, R, x7, rfl, e3, hpl3, P3, nd3, hfr3, hlen3, hsum3⟩
      rw [Int.zero_add]
      have hsz : (ps.map V.ref).length < sizeLine := by rw [List.length_map, sizeLine_eq]; omega
      o_readsAll
      rename_i q H4 fq e4 hq4
      have hpl4 := e4 _ _ hpl3
      have nq : q ≠ pl := (ne_of_none hpl3 fq).symm
      o_readsAll
      refine ⟨ps ++ [q], fun j => if j = ps.length then (i : Int) else R j, _, rfl, Eg.Same.put (e3.trans e4) fpl, by rw [upd_same, List.map_append]; rfl, ?_, ?_, fun x hx => ?_, by rw [List.length_append, List.length_singleton]; omega, fun b => ?_⟩
      · have z := ((P3.same e4).snoc hq4).off (s := pl) (fun x hx => ?_) ((off_refl pl H4).upd (o := .lst (ps.map V.ref ++ [.ref q])))
        · refine fun j x hx => ?_
          rw [z j x hx]
          show some (HO.lst [_, V.int (if j = ps.length then (0 : Int) else 0)]) = _
          rw [ite_self]
        · rcases List.mem_append.mp hx with h | h
          · exact (hfr3 x h).2
          · rw [List.mem_singleton.mp h]; exact nq
      · refine List.nodup_append.mpr ⟨nd3, List.pairwise_singleton _ _, fun x hx y hy => ?_⟩
        rw [List.mem_singleton.mp hy]
        obtain ⟨j, hj⟩ := List.getElem?_of_mem hx
        exact ne_of_none (P3 j x hj) fq
      · rcases List.mem_append.mp hx with h | h
        · exact hfr3 x h
        · rw [List.mem_singleton.mp h]; exact ⟨e3.free fq, nq⟩
      · rw [List.length_append, List.length_singleton, sm]
        show _ + (if (if ps.length = ps.length then (i : Int) else R ps.length) = (b : Int) then (1 : Int) else 0) = _
        rw [if_pos rfl, sm_congr (g := fun j => if R j = (b : Int) then 1 else 0) (fun j hj => by
          show (if (if j = ps.length then (i : Int) else R j) = (b : Int) then (1 : Int) else 0) = _
          rw [if_neg (show ¬ j = ps.length by omega)]), hsum3 b]
        by_cases hb : b = i
        · rw [if_pos hb, if_pos (show (i : Int) = (b : Int) by omega), if_pos hb]; omega
        · rw [if_neg hb, if_neg (show ¬ (i : Int) = (b : Int) by omega), if_neg hb]; omega
    · rintro σ' H3 ⟨ps, R, x7, rfl, e3, hpl3, P3, nd3, hfr3, hlen3, hsum3⟩
      exact ⟨ps, R, _, _, rfl, e3, hpl3, P3, nd3, hfr3, by rw [sm, hci]; exact hlen3, fun b => by
        rw [hsum3 b]
        by_cases hb : b = i
        · rw [if_neg (by omega), if_pos hb, if_pos (by omega), hb, hci]; omega
        · rw [if_neg hb, Int.add_zero]
          by_cases h : b < i
          · rw [if_pos h, if_pos (by omega)]
          · rw [if_neg h, if_neg (by omega)]⟩
  · rintro σ' H2 ⟨ps, R, x6, x7, rfl, e2, hpl2, P2, nd, hfr, hlen, hsum⟩
    rw [Int.toNat_natCast] at hlen hsum
    have hc2 := e2 _ _ hc'
    have m9 : ps.length ≤ 9 := by have := hS n (Nat.le_refl _); omega
    have hRI : RI L n fs ret c late ps.length 1 R (fun _ => 0) (rws L n fs ret c late 0) := RI.start (fun i hi => rfl) fun b hb => by rw [hsum b, if_pos hb]
    o_readsAll
    refine l_lstP (xs := rng n c) (fun i => .int 0) (.of hc2) (fun x => rfl) (fun D i x H' hx hD e hl => ?_) fun rl H3 frl e3 hrl => ?_
    · o_readsAll
      exact g_itemP e hl hD (by rw [sizeLine_eq]; have := (List.getElem?_eq_some_iff.mp hx).1; rw [rng_len] at this; omega) rfl
    · rw [rng_len] at hrl
      have hrl0 : IL H3 rl n (rws L n fs ret c late 0) := by rw [rws_zero]; exact hrl
      clear hrl
      o_readsAll
      rename_i rq H4 frq e4 hrq N4 hN4
      rw [show ((m : Int) + 1 - 1).toNat = m by omega]
      have hpl4 := e4 _ _ (e3 _ _ hpl2)
      have P4 := (P2.same e3).same e4
      have e04 : Same H H4 := (e2.trans e3).trans e4
      have s4 := hs.same e04
      have nst : Nn st ps := fun q hq => (hs.ne (hfr q hq).1)
      have nps : ∀ {x : Addr} {u : HO} {G : Hp}, G x = some u → (∀ q ∈ ps, G q = none) → ∀ q ∈ ps, x ≠ q := fun h hh q hq => ne_of_none h (hh q hq)
      have npl : Nn pl (st :: ps) := nn_cons (hs.ne fpl).symm fun q hq => (hfr q hq).2.symm
      have nrl : Nn rl (st :: ps) := nn_cons ((hs.same e2).ne frl).symm fun q hq => by
        obtain ⟨i, hi⟩ := List.getElem?_of_mem hq
        exact (ne_of_none (P2 i q hi) frl).symm
      have nrq : Nn rq (st :: ps) := nn_cons (((hs.same e2).same e3).ne frq).symm fun q hq => by
        obtain ⟨i, hi⟩ := List.getElem?_of_mem hq
        exact (ne_of_none ((P2.same e3) i q hi) frq).symm
      have npp : Nn p (st :: ps) := nn_cons np.symm fun q hq => ne_of_none hp (hfr q hq).1
      have nff : Nn fl (st :: ps) := nn_cons nf.symm fun q hq => ne_of_none hf' (hfr q hq).1
      have ncc : Nn cq (st :: ps) := nn_cons nc.symm fun q hq => ne_of_none hc' (hfr q hq).1
      have rlpl : rl ≠ pl := (ne_of_none hpl2 frl).symm
      have rqpl : rq ≠ pl := (ne_of_none (e3 _ _ hpl2) frq).symm
      have rlrq : rl ≠ rq := ne_of_none hrl0 frq
      have frl0 : H rl = none := e2.free frl
      have frq0 : H rq = none := e2.free (e3.free frq)
      have e_p := e04 _ _ hp
      have e_f := e04 _ _ hf'
      refine f_rng (fun i σ' H' => ∃ (R Kn : Nat → Int) (rs : List Addr) (x6 x7 x10 : Option V), σ' = [some (.ref st), some (.ref p), some (.ref cq), some (.int (m : Int)), some (.int (late : Int)), some (.ref pl), x6, x7, some (.ref rl), some (.ref rq), x10] ∧ Stk H' st ∧ Offs (st :: rl :: rq :: ps) H4 H' ∧ Pls H' ps R Kn ∧ RI L n fs ret c late ps.length (i + 1) R Kn (rws L n fs ret c late i) ∧ IL H' rl n (rws L n fs ret c late i) ∧ H' rq = some (.lst (rs.map V.ref)) ∧ rs.length = i ∧ RowsN H' rs n (fun t => rws L n fs ret c late (t + 1)) ∧ ∀ r ∈ rs, H4 r = none) ⟨R, _, [], _, _, _, rfl, s4, Offs.refl _ _, P4, hRI, hrl0.same e4, hrq, rfl, (by intro i q hq; cases hq), (by intro q hq; cases hq)⟩ ?_ ?_
      · rintro i σ' H5 hi ⟨R, Kn, rs, x6, x7, x10, rfl, s5, o5, P5, hRI5, hrl5, hrq5, hrsl, hrs5, hfr5⟩
        have big : ∀ {x : Addr}, Nn x (st :: ps) → x ≠ rl → x ≠ rq → Nn x (st :: rl :: rq :: ps) := fun h a b => nn_cons (h st List.mem_cons_self) (nn_cons a (nn_cons b fun q hq => h q (List.mem_cons_of_mem _ hq)))
        have hp5 := o5 _ _ (big npp (ne_of_none hp frl0) (ne_of_none hp frq0)) e_p
        have hf5 := o5 _ _ (big nff (ne_of_none hf' frl0) (ne_of_none hf' frq0)) e_f
        have hpl5 := o5 _ _ (big npl rlpl.symm rqpl.symm) hpl4
        have hn4 : ∀ r ∈ rs, Nn r (st :: ps) ∧ r ≠ rl ∧ r ≠ rq := fun r hr => ⟨nn_cons (s4.ne (hfr5 r hr)).symm fun q hq => by
          obtain ⟨i, hi⟩ := List.getElem?_of_mem hq
          exact (ne_of_none (P4 i q hi) (hfr5 r hr)).symm, (ne_of_none (hrl0.same e4) (hfr5 r hr)).symm, (ne_of_none hrq (hfr5 r hr)).symm⟩
        rw [show (1 : Int) + (i : Int) = ((i + 1 : Nat) : Int) by omega]
        o_readsAll
        refine c_kround (t := i + 1) s5 hp5 (show IL H5 fl n fs from hf5) hpl5 P5 nd nst npp nff npl o (by omega) m9 hRI5 fun hq hl R' Kn' H6 fhq s6 o6 P6 hhq hcnt hmem hlen' hRI6 => ?_
        have hrl6 : IL H6 rl n (rws L n fs ret c late i) := o6 _ _ nrl hrl5
        have hrq6 := o6 _ _ nrq hrq5
        have hrs6 : RowsN H6 rs n (fun t => rws L n fs ret c late (t + 1)) := fun t q hq => o6 _ _ (hn4 q (List.mem_of_getElem? hq)).1 (hrs5 t q hq)
        have hqrl : hq ≠ rl := (ne_of_none hrl5 fhq).symm
        rw [show i + 1 - 1 = i by omega] at hcnt
        o_readsAll
        refine f_lst (xs := hl.map V.int) (fun d σ' H' => ∃ (x6 : Option V) (g : Nat → Int), σ' = [some (.ref st), some (.ref p), some (.ref cq), some (.int (m : Int)), some (.int (late : Int)), some (.ref pl), x6, x7, some (.ref rl), some (.ref rq), some (.int ((i + 1 : Nat) : Int))] ∧ Off rl H6 H' ∧ IL H' rl n g ∧ ∀ b, b < n → g b = rws L n fs ret c late i b + ((hl.take d).count (b : Int) : Int)) ⟨_, _, rfl, off_refl _ _, hrl6, fun b hb => by rw [List.take_zero]; exact (Int.add_zero _).symm⟩ ?_ ?_ ?_
        · rintro d σ' H7 hd ⟨x6, g, rfl, o7, hrl7, hg⟩
          exact .of (o7 _ _ hqrl hhq)
        · rintro d y σ' H7 hy ⟨x6, g, rfl, o7, hrl7, hg⟩
          rw [List.getElem?_map] at hy
          obtain ⟨x, hx, rfl⟩ := Option.map_eq_some_iff.mp hy
          obtain ⟨b0, hb0, rfl⟩ := hmem x (List.mem_of_getElem? hx)
          o_readsAll
          refine g_ixLg hrl7.sq (atI_nat (rng_at hb0)) ?_
          o_readsAll
          refine g_setL hrl7 (by rw [rng_len]; exact ixN_at hb0) (rng_set n b0 _ _) ?_
          refine ⟨_, _, rfl, o7.upd, upd_same, fun b hb => ?_⟩
          have htk : hl.take (d + 1) = hl.take d ++ [(b0 : Int)] := by
            rw [List.take_add_one, hx]
            rfl
          rw [htk, List.count_append, Int.natCast_add, ← Int.add_assoc, ← hg b hb]
          show (if b = b0 then g b0 + 1 else g b) = _
          by_cases hbb : b = b0
          · subst hbb
            rw [if_pos rfl, List.count_singleton_self]
            rfl
          · rw [if_neg hbb, List.count_singleton, show ((b0 : Int) == (b : Int)) = false from beq_false_of_ne (by omega)]
            exact (Int.add_zero _).symm
        · rintro σ' H7 ⟨x6, g, rfl, o7, hrl7, hg⟩
          have hrl7' : IL H7 rl n (rws L n fs ret c late (i + 1)) := by
            unfold IL at hrl7 ⊢
            rw [hrl7]
            congr 2
            refine rng_congr fun b hb => ?_
            rw [hg b hb, List.take_of_length_le (by rw [List.length_map]; exact Nat.le_refl _), hcnt b hb]
            omega
          have hrl7u := hrl7'
          unfold IL at hrl7u
          have hrq7 := o7 _ _ rlrq.symm hrq6
          have hsz : (rs.map V.ref).length < sizeLine := by rw [List.length_map, sizeLine_eq]; omega
          o_readsAll
          rename_i nr H8 fnr e8 hnr
          have hrq8 := e8 _ _ hrq7
          have nnr : nr ≠ rq := (ne_of_none hrq7 fnr).symm
          have o67 : Offs (st :: rl :: rq :: ps) H5 H7 := fun b u hb q => o7 b u (hb rl (by simp)) (o6 b u (fun z hz => hb z (by
            rcases List.mem_cons.mp hz with h | h
            · rw [h]; simp
            · simp [h])) q)
          have o48 : Offs (st :: rl :: rq :: ps) H4 H8 := (o5.trans o67).same e8
          have P7 : Pls H7 ps R' Kn' := P6.off (fun q hq z => nrl q (List.mem_cons_of_mem _ hq) z.symm) o7
          have s7 : Stk H7 st := by
            obtain ⟨a1, a2, a3, h⟩ := s6
            exact ⟨a1, a2, a3, o7 _ _ (fun z => nrl st List.mem_cons_self z.symm) h⟩
          have fnr4 : H4 nr = none := Offs.free fnr (o5.trans o67) (nn_cons (s7.ne fnr).symm (nn_cons (ne_of_none hrl7u fnr).symm (nn_cons nnr fun q hq => by
            obtain ⟨i, hi⟩ := List.getElem?_of_mem hq
            exact (ne_of_none (P7 i q hi) fnr).symm)))
          have o9 : Offs (st :: rl :: rq :: ps) H4 (upd H8 rq (.lst (rs.map V.ref ++ [.ref nr]))) := o48.put (by simp)
          refine ⟨R', Kn', rs ++ [nr], _, _, _, rfl, (s7.same e8).put (fun z => nrq st List.mem_cons_self z.symm), o9, (P7.same e8).off (fun q hq z => nrq q (List.mem_cons_of_mem _ hq) z.symm) (off_refl _ _).upd, hRI6, ?_, by rw [upd_same, List.map_append]; rfl, by rw [List.length_append, hrsl]; rfl, ?_, fun r hr => ?_⟩
          · unfold IL
            rw [upd_ne rlrq]
            exact e8 _ _ hrl7u
          · have h7 : RowsN H7 rs n (fun t => rws L n fs ret c late (t + 1)) := fun t q hq => o7 _ _ (hn4 q (List.mem_of_getElem? hq)).2.1 (hrs6 t q hq)
            refine RowsN.put ((h7.same e8).snoc (by rw [hrsl]; exact hnr)) fun x hx => ?_
            rcases List.mem_append.mp hx with h | h
            · exact (hn4 x h).2.2
            · rw [List.mem_singleton.mp h]; exact nnr
          · rcases List.mem_append.mp hr with h | h
            · exact hfr5 r h
            · rw [List.mem_singleton.mp h]; exact fnr4
      · rintro σ' H5 ⟨R, Kn, rs, x6, x7, x10, rfl, s5, o5, P5, hRI5, hrl5, hrq5, hrsl, hrs5, hfr5⟩
        o_readsAll
        refine k rq rs H5 frq0 s5 (fun b u hb q => o5 b u (nn_cons hb (nn_cons (ne_of_none q frl0) (nn_cons (ne_of_none q frq0) fun x hx => ne_of_none q (hfr x hx).1))) (e04 b u q)) hrq5 hrsl hrs5 fun r hr => e04.free (hfr5 r hr)
end
end L29

namespace L29
set_option exponentiation.threshold 2000
open SX Ld
section
variable {P : Program} {w : World} {K : PySem.W.Frag} {mg : Str → Option Value} {base : Heap} {Z : Ad}
theorem l_rngS {σ : L2.St} {H : Hp} {Q : VK} {n j : Nat} {te : TE} {s : Addr} {lo : Int} {vs : List Nat} (R : Nat → Int → Prop) (hw : ∀ x, wipe ((wipe σ vs).set j (some x)) vs = wipe σ vs) (hst : Stk H s) (hn : n < sizeLine)
    (hs : ∀ (D : Addr) (i : Nat) (l : List Int) (H' : Hp) (Q' : VK), i < n → H D = none → D ≠ s → H' D = some (.lst (l.map V.int)) → l.length = i → Stk H' s → Off s H H' → (∀ x H2, R i x → Stk H2 s → Off s H' H2 → Q' (.int x) H2) → te ((wipe σ vs).set j (some (.int (lo + i)))) H' Q')
    (k : ∀ p f H', H p = none → Stk H' s → Off s H H' → IL H' p n f → (∀ i, i < n → R i (f i)) → Q (.ref p) H') : gLc (Itr lo n) (gName j) tYes te vs σ H Q := by
  refine l_it walk_range (fun D i acc H' => ∃ l : List Int, acc = l.map V.int ∧ l.length = i ∧ Stk H' s ∧ Off s H H' ∧ ∀ j x, l[j]? = some x → R j x) (fun D hD => ?_) (fun D i acc H' hD _ _ p => trivial) (fun D i x acc H1 H' hD hi e le p y => ?_) (fun D acc H' hD e _ p => ?_)
  · exact ⟨[], rfl, rfl, hst.put (hst.ne hD), fun b u _ q => by rw [upd_ne (ne_of_none q hD)]; exact q, fun _ _ h => nomatch h⟩
  · obtain ⟨e1, e2⟩ := y
    subst e1 e2
    obtain ⟨l, rfl, hl, s1, o1, hR⟩ := p
    have hDs : D ≠ s := (hst.ne hD).symm
    refine ⟨hw _, hs D i l _ _ hi hD hDs e hl s1 o1 fun x H2 hx s2 o2 => ?_⟩
    refine g_item (o2 _ _ hDs e) (by rw [List.length_map]; exact hl) (by omega) ⟨l ++ [x], by simp, by simp [hl], s2.put hDs.symm, fun b u hb q => by rw [upd_ne (ne_of_none q hD)]; exact o2 b u hb (o1 b u hb q), fun j y hy => ?_⟩
    by_cases hj : j < l.length
    · rw [List.getElem?_append_left hj] at hy
      exact hR j y hy
    · rw [List.getElem?_append_right (by omega)] at hy
      have : j - l.length = 0 := by
        by_cases h : j - l.length = 0
        · exact h
        · rw [List.getElem?_eq_none (by simp; omega)] at hy
          cases hy
      rw [this] at hy
      cases hy
      rw [show j = i by omega]
      exact hx
  · obtain ⟨l, rfl, hl, s1, o1, hR⟩ := p
    refine k D (fn l) H' hD s1 o1 (by unfold IL; rw [e, rng_fn, hl]) fun i hi => ?_
    have h := List.getElem?_eq_getElem (l := l) (i := i) (by omega)
    exact hR i _ (by rw [fn_at h]; exact h)
/-- the same over a list that stands still -/
theorem l_lstS {σ : L2.St} {H : Hp} {Q : VK} {j : Nat} {te : TE} {s cq : Addr} {xs : List V} {vs : List Nat} (R : Nat → Int → Prop) (hw : ∀ x, wipe ((wipe σ vs).set j (some x)) vs = wipe σ vs) (hst : Stk H s) (hn : xs.length < sizeLine) (hx : H cq = some (.lst xs)) (nc : s ≠ cq)
    (hs : ∀ (D : Addr) (i : Nat) (x : V) (l : List Int) (H' : Hp) (Q' : VK), xs[i]? = some x → H D = none → D ≠ s → H' D = some (.lst (l.map V.int)) → l.length = i → Stk H' s → Off s H H' → (∀ x H2, R i x → Stk H2 s → Off s H' H2 → Q' (.int x) H2) → te ((wipe σ vs).set j (some x)) H' Q')
    (k : ∀ p f H', H p = none → Stk H' s → Off s H H' → IL H' p xs.length f → (∀ i, i < xs.length → R i (f i)) → Q (.ref p) H') : gLc (Itl K cq) (gName j) tYes te vs σ H Q := by
  refine l_it (walk_list (xs := xs)) (fun D i acc H' => ∃ l : List Int, acc = l.map V.int ∧ l.length = i ∧ Stk H' s ∧ Off s H H' ∧ ∀ j x, l[j]? = some x → R j x) (fun D hD => ?_) (fun D i acc H' hD _ _ p => ?_) (fun D i x acc H1 H' hD hi e le p y => ?_) (fun D acc H' hD e _ p => ?_)
  · exact ⟨[], rfl, rfl, hst.put (hst.ne hD), fun b u _ q => by rw [upd_ne (ne_of_none q hD)]; exact q, fun _ _ h => nomatch h⟩
  · obtain ⟨l, rfl, hl, s1, o1, hR⟩ := p
    exact .of (o1 _ _ nc.symm hx)
  · obtain ⟨e1, e2⟩ := y
    subst e1
    obtain ⟨l, rfl, hl, s1, o1, hR⟩ := p
    have hDs : D ≠ s := (hst.ne hD).symm
    refine ⟨hw _, hs D i x l _ _ e2 hD hDs e hl s1 o1 fun x H2 hx s2 o2 => ?_⟩
    refine g_item (o2 _ _ hDs e) (by rw [List.length_map]; exact hl) (by omega) ⟨l ++ [x], by simp, by simp [hl], s2.put hDs.symm, fun b u hb q => by rw [upd_ne (ne_of_none q hD)]; exact o2 b u hb (o1 b u hb q), fun j y hy => ?_⟩
    by_cases hj : j < l.length
    · rw [List.getElem?_append_left hj] at hy
      exact hR j y hy
    · rw [List.getElem?_append_right (by omega)] at hy
      have : j - l.length = 0 := by
        by_cases h : j - l.length = 0
        · exact h
        · rw [List.getElem?_eq_none (by simp; omega)] at hy
          cases hy
      rw [this] at hy
      cases hy
      rw [show j = i by omega]
      exact hx
  · obtain ⟨l, rfl, hl, s1, o1, hR⟩ := p
    refine k D (fn l) H' hD s1 o1 (by unfold IL; rw [e, rng_fn, hl]) fun i hi => ?_
    have h := List.getElem?_eq_getElem (l := l) (i := i) (by omega)
    exact hR i _ (by rw [fn_at h]; exact h)
end
end L29

namespace L29
set_option exponentiation.threshold 9000
open SX Ld Rd
section
variable {P : Program} {w : World} {K : PySem.W.Frag} {mg : Str → Option Value} {base : Heap} {Z : Ad}
theorem TabS.of {C CL st : Addr} {H0 H' : Hp} {t l dx cl : Addr} {L : Int} {n : Nat} {fs : Nat → Int} {ret : Bool} {cs : Nat → Int} {u : HO} (hl : LadFr CL H0 H' l L n fs ret) (hu : H0 st = some u) (nl : l ≠ st) (nt : t ≠ st) (nc : cl ≠ st) (i1 : H' t = some (.ins C dx [("ladder_kept", .ref l), ("counts_list", .ref cl)])) (i2 : IL H' cl n cs) : TabS C CL st H' t L n fs ret cs := fun G o =>
  ⟨dx, l, cl, o _ _ nt i1 (fun _ z => nomatch z), o _ _ nc i2 (fun _ z => nomatch z), (hl.offN hu nl o).at⟩
theorem sm_part {c : Nat → Int} {n : Nat} (h : ∀ i, i < n → 0 ≤ c i) : ∀ i, i ≤ n → sm c i ≤ sm c n := by
  induction n with
  | zero => intro i hi; rw [show i = 0 by omega]; exact Int.le_refl _
  | succ n ih =>
    intro i hi
    by_cases e : i = n + 1
    · rw [e]; exact Int.le_refl _
    · have h1 := ih (fun i hi => h i (by omega)) i (by omega)
      have h2 := h n (by omega)
      have h3 : sm c (n + 1) = sm c n + c n := rfl
      omega
theorem sm_set {c : Nat → Int} {j : Nat} {x : Int} : ∀ {n : Nat}, j < n → sm (fun i => if i = j then x else c i) n = sm c n - c j + x := by
  intro n
  induction n with
  | zero => intro h; omega
  | succ n ih =>
    intro h
    rw [sm, sm]
    by_cases e : n = j
    · subst e
      rw [sm_congr (g := c) (fun i hi => by rw [if_neg (show ¬ i = n by omega)])]
      show _ + (if n = n then x else c n) = _
      rw [if_pos rfl]
      omega
    · rw [ih (by omega)]
      show _ + (if n = j then x else c n) = _
      rw [if_neg e]
      omega
theorem alk_rows {H : Hp} {a b : Addr} {rs qs : List Addr} {n : Nat} {f : Nat → Nat → Int} (ha : H a = some (.lst (rs.map V.ref))) (hb : H b = some (.lst (qs.map V.ref))) (hl : rs.length = qs.length) (h1 : RowsN H rs n f) (h2 : RowsN H qs n f) (hk : qs.length ≤ 1000) (hn : n ≤ 1000) : Alk H 3 (.ref a) (.ref b) := by
  refine .inr (.inr (.inr (.inr (.inr ⟨a, b, _, _, rfl, rfl, ha, hb, by rw [List.length_map, List.length_map, hl], by rw [List.length_map]; omega, fun i u v hu hv => ?_⟩))))
  rw [List.getElem?_map] at hu hv
  obtain ⟨q, hq, rfl⟩ := Option.map_eq_some_iff.mp hu
  obtain ⟨r, hr, rfl⟩ := Option.map_eq_some_iff.mp hv
  exact alk_il (m := 0) (h1 i q hq) (h2 i r hr) (by omega)
theorem cut_rows {H : Hp} {rs : List Addr} {n m : Nat} {f : Nat → Nat → Int} (hl : rs.length = m + 1) (h : RowsN H rs n f) : cutV (rs.map V.ref) (some 1) none = (rs.drop 1).map V.ref ∧ (rs.drop 1).length = m ∧ RowsN H (rs.drop 1) n (fun t => f (t + 1)) := by
  refine ⟨?_, by rw [List.length_drop]; omega, fun t x hx => ?_⟩
  · rw [show (some 1 : Option Int) = some ((1 : Nat) : Int) from rfl, cutV_from _ _ (by rw [List.length_map]; omega), List.map_drop]
  · rw [List.getElem?_drop, Nat.add_comm] at hx
    exact h _ _ hx
theorem rows_data {H : Hp} {rs : List Addr} {n m : Nat} {f : Nat → Nat → Int} (hl : rs.length = m) (h : RowsN H rs n f) : rs.length = ((List.range m).map fun t => (List.range n).map (f t)).length ∧ ∀ (i : Nat) (r : Addr) (l : List Int), rs[i]? = some r → ((List.range m).map fun t => (List.range n).map (f t))[i]? = some l → SqL K H r (l.map V.int) := by
  refine ⟨by simp [hl], fun i r l hr hl2 => ?_⟩
  rw [List.getElem?_map] at hl2
  obtain ⟨t, ht, rfl⟩ := Option.map_eq_some_iff.mp hl2
  have hi := (List.getElem?_eq_some_iff.mp ht).1
  rw [List.length_range] at hi
  rw [List.getElem?_range hi] at ht
  cases ht
  rw [← rng_ints]
  exact (h i r hr).sq
theorem c_kcrowns {st p t cq fl : Addr} {late : Nat} {L : Int} {n : Nat} {fs : Nat → Int} {ret : Bool} {c : Nat → Int} {H : Hp} {Q : VK} {E : XK} (hs : Stk H st) (ht : TabS Z.a_Table Z.a_Ladder st H t L n fs ret c) (hp : H p = some (.lst [.int L, .ref fl, .bl ret])) (hf : IL H fl n fs) (hc : IL H cq n c) (np : st ≠ p) (nf : st ≠ fl) (nc : st ≠ cq) (o : ROk L n fs c) (l6 : late ≤ 6) (hT : LamX.Tabs (tabs Z) H) (k : ∀ H', Stk H' st → OffN st H H' → LamX.Tabs (tabs Z) H' → Q (.bl true) H') : sp_kcrowns Z [.ref st, .ref p, .ref t, .ref cq, .int (late : Int)] H Q E := ⟨st, p, t, cq, fl, late, L, n, fs, ret, c, rfl, hs, ht, hp, hf, hc, np, nf, nc, o, l6, hT, k⟩
def sp_law (K : PySem.W.Frag) (Z : Ad) : Sp := fun vs H Q _ => ∃ (a : Addr) (ns : List Int), vs = [.ref a] ∧ SqL K H a (ns.map V.int) ∧ ns.length ≤ 63 ∧ LamX.Tabs (tabs Z) H ∧ ∀ H', Q (.bl true) H'
theorem ok_law (T : Txt K w mg Z) (B : Bas Z mg base) {f : Addr} {fd : FuncData} (F : Fun K "law" "law" st_law f fd) : FnOk P w K mg base CX0 13 f fd ["script"] (sp_law K Z) := by
  refine F.ok sc_law (fun vs H Q E h => by first | (obtain ⟨rfl, _⟩ := h; rfl) | (obtain ⟨_, rfl, _⟩ := h; rfl) | (obtain ⟨_, _, rfl, _⟩ := h; rfl) | (obtain ⟨_, _, _, rfl, _⟩ := h; rfl) | (obtain ⟨_, _, _, _, rfl, _⟩ := h; rfl) | (obtain ⟨_, _, _, _, _, rfl, _⟩ := h; rfl) | (obtain ⟨_, _, _, _, _, _, rfl, _⟩ := h; rfl) | (obtain ⟨_, _, _, _, _, _, _, rfl, _⟩ := h; rfl) | (obtain ⟨_, _, _, _, _, _, _, _, rfl, _⟩ := h; rfl) | (obtain ⟨_, _, _, _, _, _, _, _, _, rfl, _⟩ := h; rfl) | (obtain ⟨_, _, _, _, _, _, _, _, _, _, rfl, _⟩ := h; rfl) | (obtain ⟨_, _, _, _, _, _, _, _, _, _, _, rfl, _⟩ := h; rfl) | (obtain ⟨_, _, _, _, _, _, _, _, _, _, _, _, rfl, _⟩ := h; rfl) | (obtain ⟨_, _, _, _, _, _, _, _, _, _, _, _, _, rfl, _⟩ := h; rfl) | (obtain ⟨_, _, _, _, _, _, _, _, _, _, _, _, _, _, rfl, _⟩ := h; rfl) | (obtain ⟨_, _, _, _, _, _, _, _, _, _, _, _, _, _, _, rfl, _⟩ := h; rfl) | (obtain ⟨_, _, _, _, _, _, _, _, _, _, _, _, _, _, _, _, rfl, _⟩ := h; rfl)) (fun cdv A outer s H vs Q E hr h => ?_)
  obtain ⟨a, ns, rfl, hS, hns, hT, k⟩ := h
  have D_law_stock := d_law_stock (P := P) (base := base) T
  have D_law_e_ladder := d_law_e_ladder (P := P) (base := base) T
  have D_law_draw := d_law_draw (P := P) (base := base) T
  have D_Ladder_init := d_Ladder_init (P := P) (base := base) T
  have D_Table_init := d_Table_init (P := P) (base := base) T
  have D_law_k29_named := d_law_k29_named (P := P) (base := base) T
  have D_round_rows := d_round_rows (P := P) (base := base) T
  have D_law_k29_rows := d_law_k29_rows (P := P) (base := base) T
  have D_law_k29_crowns := d_law_k29_crowns (P := P) (base := base) T B
  have D_law_matches := d_law_matches (P := P) (base := base) T
  have D_law_k29_refusals := d_law_k29_refusals (P := P) (base := base) T B
  refine ⟨_, (pss_cons (ps_set (i := 1) sc_law.nd rfl (.inr rfl) (pe_dfn D_law_stock (hr.mono (by decide)) (by rfl) (pa_cons (pv 0) (pa_cons pe_int pa_nil))))
      (pss_cons (ps_set (i := 2) sc_law.nd rfl (.inl rfl) (pe_dfn D_law_e_ladder (hr.mono (by decide)) (by rfl) (pa_cons (pv 1) (pa_cons pe_int (pa_cons pe_int (pa_cons pe_int pa_nil))))))
      (pss_cons (ps_setLc (i := 3) (own := [("rung", 11)]) (by rfl) sc_law.nd rfl rfl (sw_true rfl rfl rfl (by decide +kernel)) (pi_range1 (by rfl) T.b_range (pa_cons (pe_callB call_uLen (by rfl) T.b_len bt_len (pa_cons (pe_ix ix_seq (pv 2) pe_int (fun _ _ => rfl)) pa_nil)) pa_nil)) (blkOk_by (N := n_law) (sc := defScope st_law) (by decide +kernel)) (fun _ _ _ _ _ => (pg_name (i := 11) sc_law.nd rfl (.inl rfl))) (fun _ _ _ _ _ => pts_nil) (fun _ _ _ _ _ => (pe_ifExp (pt_cmpR op_gt (pv 11) pe_int (nomark _)) (pe_dfn D_law_draw (hr.mono (by decide)) (by rfl) (pa_cons (pv 1) (pa_cons pe_int pa_nil))) (pe_dfn D_law_draw (hr.mono (by decide)) (by rfl) (pa_cons (pv 1) (pa_cons pe_int pa_nil))))))
      (pss_cons (ps_while PassesOwn.never (pt_cmpR op_gt (pe_callB (cr_sum rfl) (by rfl) T.b_sum bt_sum (pa_cons (pv 3) pa_nil)) pe_int (nomark _)) (pss_one (ps_augS (pv 3) (pe_bm PySem.F.plainAttrs_list PySem.F.slot_list_index PySem.F.type_list_index mt_index (pv 3) (pa_cons (pe_callB (cr_max rfl) (by rfl) T.b_max bt_max (pa_cons (pv 3) pa_nil)) pa_nil)) get_list pe_int ip_sub set_list)))
      (pss_cons (ps_set (i := 4) sc_law.nd rfl (.inl rfl) (pe_ifExp (pt_cmpR op_gt (pe_dfn D_law_draw (hr.mono (by decide)) (by rfl) (pa_cons (pv 1) (pa_cons pe_int pa_nil))) pe_int (nomark _)) (pe_dfn D_law_draw (hr.mono (by decide)) (by rfl) (pa_cons (pv 1) (pa_cons pe_int pa_nil))) pe_int))
      (pss_cons (ps_set (i := 5) sc_law.nd rfl (.inl rfl) (pe_dfn D_law_draw (hr.mono (by decide)) (by rfl) (pa_cons (pv 1) (pa_cons pe_int pa_nil))))
      (pss_cons (ps_set (i := 6) sc_law.nd rfl (.inl rfl) (pe_iniS D_Ladder_init (hr.mono (by decide)) (by rfl) takes0 (pa_cons (pe_ix ix_seq (pv 2) pe_int (fun _ _ => rfl)) (pa_cons (pe_ix ix_seq (pv 2) pe_int (fun _ _ => rfl)) (pa_cons (pe_ix ix_seq (pv 2) pe_int (fun _ _ => rfl)) pa_nil)))))
      (pss_cons (ps_set (i := 7) sc_law.nd rfl (.inl rfl) (pe_iniS D_Table_init (hr.mono (by decide)) (by rfl) takes0 (pa_cons (pv 6) (pa_cons (pe_callTy call_uList (by rfl) T.b_list bt_list (pa_cons (pv 3) pa_nil)) pa_nil))))
      (pss_cons (ps_set (i := 8) sc_law.nd rfl (.inl rfl) (pe_dfn D_law_k29_named (hr.mono (by decide)) (by rfl) (pa_cons (pv 1) (pa_cons (pv 2) (pa_cons (pv 3) (pa_cons (pv 5) (pa_cons (pv 4) pa_nil)))))))
      (pss_cons (ps_if (pt_cmpR (op_uNe hr.units) (pv 8) (pe_slice sl_u (pe_dfn D_law_k29_rows (hr.mono (by decide)) (by rfl) (pa_cons (pv 2) (pa_cons (pv 3) (pa_cons (pv 5) (pa_cons (pv 4) pa_nil))))) (po_some pe_int) po_none) (nomark _)) (pss_one (ps_ret pe_bl)) pss_nil)
      (pss_cons (ps_set (i := 9) sc_law.nd rfl (.inl rfl) (pe_dfnS D_round_rows (hr.mono (by decide)) (by rfl) takes0 (pa_cons (pv 7) (pa_cons (pv 5) (pa_cons (pv 4) pa_nil)))))
      (pss_cons (ps_if (pt_not (pt_u (pe_dfn (D_law_matches 3) (hr.mono (by decide)) (by rfl) (pa_cons (pv 9) (pa_cons (pv 8) pa_nil))))) (pss_one (ps_ret pe_bl)) pss_nil)
      (pss_cons (ps_expr (pe_bm PySem.F.plainAttrs_list PySem.F.slot_list_append PySem.F.type_list_append mt_append (pv 9) (pa_cons (pe_lst pa_nil) pa_nil)))
      (pss_cons (ps_if (pt_cmpR op_gt (pv 5) pe_int (nomark _)) (pss_one (ps_augS (pe_ix ix_seq (pv 9) pe_int (fun _ _ => rfl)) pe_int get_list pe_int ip_add set_list)) pss_nil)
      (pss_cons (ps_if (PW.pt (pw_or (pt_not (pt_u (pe_dfn (D_law_matches 3) (hr.mono (by decide)) (by rfl) (pa_cons (pe_dfnS D_round_rows (hr.mono (by decide)) (by rfl) takes0 (pa_cons (pv 7) (pa_cons (pv 5) (pa_cons (pv 4) pa_nil)))) (pa_cons (pv 8) pa_nil))))) (pw_or1 (pt_not (pt_u (pe_dfn D_law_k29_refusals (hr.mono (by decide)) (by rfl) (pa_cons (pv 7) pa_nil))))))) (pss_one (ps_ret pe_bl)) pss_nil)
      (pss_cons (ps_if (pt_not (pt_u (pe_dfn D_law_k29_crowns (hr.mono (by decide)) (by rfl) (pa_cons (pv 1) (pa_cons (pv 2) (pa_cons (pv 7) (pa_cons (pv 3) (pa_cons (pv 4) pa_nil)))))))) (pss_one (ps_ret pe_bl)) pss_nil)
      (pss_cons (ps_setLc (i := 10) (own := [("one", 12)]) (by rfl) sc_law.nd rfl rfl (sw_true rfl rfl rfl (by decide +kernel)) (pi_list (pv 3)) (blkOk_by (N := n_law) (sc := defScope st_law) (by decide +kernel)) (fun _ _ _ _ _ => (pg_name (i := 12) sc_law.nd rfl (.inl rfl))) (fun _ _ _ _ _ => pts_nil) (fun _ _ _ _ _ => (pe_ifExp (pt_cmpR (op_uEqK (K := K) rfl hr.units) (pe_dfn D_law_draw (hr.mono (by decide)) (by rfl) (pa_cons (pv 1) (pa_cons pe_int pa_nil))) pe_int (nomark _)) (pe_dfn D_law_draw (hr.mono (by decide)) (by rfl) (pa_cons (pv 1) (pa_cons (pe_op (op_uAddK (K := K) rfl) (pe_op op_pow pe_int pe_int) pe_int) pa_nil))) (pv 12))))
      (pss_cons (ps_set (i := 5) sc_law.nd rfl (.inl rfl) (pe_ifExp (pt_cmpR (op_uEq hr.units) (pe_dfn D_law_draw (hr.mono (by decide)) (by rfl) (pa_cons (pv 1) (pa_cons pe_int pa_nil))) pe_int (nomark _)) pe_int (pe_op op_uAdd pe_int (pv 5))))
      (pss_cons (ps_set (i := 8) sc_law.nd rfl (.inl rfl) (pe_dfn D_law_k29_rows (hr.mono (by decide)) (by rfl) (pa_cons (pv 2) (pa_cons (pv 10) (pa_cons (pv 5) (pa_cons (pv 4) pa_nil))))))
      (pss_cons (ps_if (pt_not (pt_u (pe_dfn (D_law_matches 3) (hr.mono (by decide)) (by rfl) (pa_cons (pe_dfnS D_round_rows (hr.mono (by decide)) (by rfl) takes0 (pa_cons (pe_iniS D_Table_init (hr.mono (by decide)) (by rfl) takes0 (pa_cons (pv 6) (pa_cons (pe_callTy call_uList (by rfl) T.b_list bt_list (pa_cons (pv 10) pa_nil)) pa_nil))) (pa_cons (pv 5) (pa_cons (pv 4) pa_nil)))) (pa_cons (pe_slice sl_u (pv 8) (po_some pe_int) po_none) pa_nil))))) (pss_one (ps_ret pe_bl)) pss_nil)
      (pss_one (ps_ret (pe_dfn D_law_k29_crowns (hr.mono (by decide)) (by rfl) (pa_cons (pv 1) (pa_cons (pv 2) (pa_cons (pe_iniS D_Table_init (hr.mono (by decide)) (by rfl) takes0 (pa_cons (pv 6) (pa_cons (pv 10) pa_nil))) (pa_cons (pv 10) (pa_cons (pv 4) pa_nil)))))))))))))))))))))))))))), ?_⟩
  try dsimp only [cxOf, Cx.nox, Cx.wish]
  show (_ : TS) _ [some _, none, none, none, none, none, none, none, none, none, none, none, none] _
  o_readsAll
  refine c_stock (at_ := 0) hS hns (by decide) fun st H1 f1 e1 s1 => ?_
  have T1 := hT.ext e1
  o_readsAll
  refine c_eladL (lo := 1) (hi := 4) (wi := 3) (by decide) (by decide) (by decide) (by decide) (by decide) s1 fun p L fl0 ret H4 fp s4 o4 hp nfl l2 l6 n1 n4 okf => ?_
  have np : st ≠ p := s1.ne fp
  have T4 := tabs_off T1 s1 o4
  obtain ⟨fl, hp1, hp2⟩ := hp
  have nf := nfl fl hp1
  have hp2' := hp2
  unfold IL at hp2'
  o_readsAll
  rw [rng_len, Int.toNat_natCast]
  refine l_rngS (fun _ x => 0 ≤ x ∧ x ≤ 9) (fun x => rfl) s4 (by rw [sizeLine_eq]; omega) (fun D j' l' H6 Q' hj hD hDs hl' hll s6 o6 hQ => ?_) fun cq cs0 H5 fcq s5 o5 hcq hcb0 => ?_
  · o_readsAll
    refine br (fun h => ?_) (fun h => ?_)
    · o_readsAll
      refine c_draw (by decide) (by decide) s6 fun x H7 x0 x1 s7 o7 => ?_
      exact hQ x H7 ⟨x0, by omega⟩ s7 o7
    · o_readsAll
      refine c_draw (by decide) (by decide) s6 fun x H7 x0 x1 s7 o7 => ?_
      exact hQ x H7 ⟨x0, by omega⟩ s7 o7
  have T5 := tabs_off T4 s4 o5
  have nc : st ≠ cq := s4.ne fcq
  have hp5 := o5 _ _ np.symm hp1
  have hf5 := o5 _ _ nf.symm hp2'
  have npc : p ≠ cq := ne_of_none hp1 fcq
  have nfc : fl ≠ cq := ne_of_none hp2' fcq
  clear T4 T1 o4 o5
  obtain ⟨n, hn⟩ : ∃ n, fl0.length = n := ⟨_, rfl⟩
  rw [hn] at hcq hcb0 n1 n4 hf5 hp2'
  o_readsAll
  refine ⟨fun μ σ' H' => ∃ cs : Nat → Int, σ' = [some (.ref a), some (.ref st), some (.ref p), some (.ref cq), none, none, none, none, none, none, none, none, none] ∧ Off cq H5 H' ∧ IL H' cq n cs ∧ (∀ i, i < n → 0 ≤ cs i ∧ cs i ≤ 9) ∧ μ = (sm cs n).toNat, ⟨_, cs0, rfl, off_refl _ _, hcq, hcb0, rfl⟩, ?_⟩
  rintro μ σ' H6 ⟨cs, rfl, o6, hc6, hcb, hμ⟩
  have c0 : ∀ i, i < n → 0 ≤ cs i := fun i hi => (hcb i hi).1
  have s6 : Stk H6 st := by
    obtain ⟨a1, a2, a3, h⟩ := s5
    exact ⟨a1, a2, a3, o6 _ _ nc h⟩
  o_readsAll
  refine g_sumI hc6 ?_
  o_readsAll
  refine br (fun hgt => ?_) (fun hle => ?_)
  · refine ⟨_, fun σ2 H2 h => h, ?_⟩
    have hc6' := hc6
    unfold IL at hc6'
    have hc6i : SqL K H6 cq (((List.range n).map cs).map V.int) := by rw [← rng_ints]; exact hc6.sq
    o_readsAll
    refine g_maxI hc6i (by simp; omega) fun mx hm1 hm2 => ?_
    o_readsAll
    refine g_index hc6i hm1 fun j hj => ?_
    have hjn : j < n := by have := (List.getElem?_eq_some_iff.mp hj).1; simpa using this
    rw [List.getElem?_map, List.getElem?_range hjn] at hj
    cases hj
    refine g_ixLg hc6.sq (atI_nat (rng_at hjn)) ?_
    o_readsAll
    refine g_setL hc6 (by rw [rng_len]; exact ixN_at hjn) (rng_set n j _ _) ?_
    have hj1 : 1 ≤ cs j := by
      by_cases h : 1 ≤ cs j
      · exact h
      · exfalso
        have hz : ∀ i, i < n → cs i = 0 := fun i hi => by
          have h1 := hm2 (cs i) (List.mem_map.mpr ⟨i, List.mem_range.mpr hi, rfl⟩)
          have h2 := c0 i hi
          omega
        have : sm cs n = 0 := Eq.trans (sm_congr (g := fun _ => 0) hz) (sm_zero n)
        omega
    refine ⟨(sm (fun i => if i = j then cs j - 1 else cs i) n).toNat, ?_, _, rfl, o6.upd, upd_same, fun i hi => ?_, rfl⟩
    · rw [sm_set hjn, hμ]
      omega
    · show 0 ≤ (if i = j then cs j - 1 else cs i) ∧ (if i = j then cs j - 1 else cs i) ≤ 9
      have h1 := hcb i hi
      have h2 := hcb j hjn
      split <;> omega
  · have hp6 := o6 _ _ npc hp5
    have hf6 := o6 _ _ nfc hf5
    have T6 := tabs_offL T5 (show H5 cq = some (.lst (rng n cs0)) from hcq) o6
    clear hp5 hf5 T5 hcq o6 hμ s5 hcb0
    refine p_nx ?_
    have okF : OkF (fn fl0) := okf.ok
    have ro : ROk L n (fn fl0) cs := ⟨l2, by omega, by omega, n4, okF, c0, fun i hi => by
      have := hcb i hi
      exact Nat.lt_of_le_of_lt (show (cs i).natAbs ≤ 9 by omega) (by decide)⟩
    have hS : ∀ i, i ≤ n → sm cs i ≤ 9 := fun i hi => by have := sm_part c0 i hi; omega
    have hff6 : IL H6 fl n (fn fl0) := hf6
    o_readsAll
    refine c_draw (by decide) (by decide) s6 fun r7 H7 r70 r71 s7 o7 => ?_
    have T7 := tabs_off T6 s6 o7
    have hp7 := o7 _ _ np.symm hp6
    have hf7 := o7 _ _ nf.symm hf6
    have hc7 : IL H7 cq n cs := o7 _ _ nc.symm hc6
    clear hp6 hf6 hff6 hc6 T6 o7 s6
    o_readsAll
    refine jnE (fun x H' => ∃ late : Nat, x = .int (late : Int) ∧ late ≤ 6 ∧ Stk H' st ∧ Off st H7 H') ?_ (fun Q' hQ => br (fun h => ?_) (fun h => ?_))
    rotate_left
    · o_readsAll
      refine c_draw (by decide) (by decide) s7 fun r8 H8 r80 r81 s8 o8 => ?_
      exact hQ _ _ ⟨r8.toNat, by rw [show (r8.toNat : Int) = r8 by omega], by omega, s8, o8⟩
    · o_readsAll
      exact hQ _ _ ⟨6, rfl, by decide, s7, off_refl _ _⟩
    rintro x H8 ⟨late, rfl, hlate, s8, o8⟩
    have T8 := tabs_off T7 s7 o8
    have hp8 := o8 _ _ np.symm hp7
    have hf8 := o8 _ _ nf.symm hf7
    have hc8 : IL H8 cq n cs := o8 _ _ nc.symm hc7
    clear hp7 hf7 hc7 T7 o8 s7
    o_readsAll
    refine c_draw (by decide) (by decide) s8 fun r9 H9 r90 r91 s9 o9 => ?_
    obtain ⟨m, rfl⟩ : ∃ m : Nat, r9 = (m : Int) := ⟨r9.toNat, by omega⟩
    have T9 := tabs_off T8 s8 o9
    have hp9 := o9 _ _ np.symm hp8
    have hf9 := o9 _ _ nf.symm hf8
    have hc9 := o9 _ _ nc.symm hc8
    clear hp8 hf8 hc8 T8 o9 s8
    have hok : flt L fl0 = none := ok_flt l2 (by omega) (by omega) (by omega) okf
    obtain ⟨u0, u1, u2, hst9⟩ := s9
    have s9 : Stk H9 st := ⟨u0, u1, u2, hst9⟩
    o_readsAll
    refine c_lmake (l := fl0) (by rw [hf9, rng_fn, hn]) hok fun l Ha fla ea hla => ?_
    rw [hn] at hla
    have nl : l ≠ st := (s9.ne fla).symm
    have hca := ea _ _ hc9
    o_readsAll
    rename_i cc Hb fcc eb hcc
    refine c_tmakeX (hla.same eb).at (show IL Hb cc n cs from hcc) (by omega) (fun _ t Hc dx cl ft fcl ec i1 i2 _ => ?_) (fun r hr => ?_)
    rotate_left
    · rw [ok_wrc c0] at hr
      cases hr
    have e9b : Same H9 Hb := ea.trans eb
    have e9c : Same H9 Hc := e9b.trans ec
    have hstb := e9b _ _ hst9
    have hlc : LadFr Z.a_Ladder H9 Hc l L n (fn fl0) ret := (hla.same eb).same ec
    have htc : TabS Z.a_Table Z.a_Ladder st Hc t L n (fn fl0) ret cs := TabS.of hlc hst9 nl (ne_of_none hstb ft).symm (ne_of_none hstb fcl).symm i1 i2
    have sc := s9.same e9c
    have Tc := T9.ext e9c
    have hpc := e9c _ _ hp9
    have hfc := e9c _ _ hf9
    have hcc' := e9c _ _ hc9
    clear hcc i1 i2 hla ea eb ec e9b e9c hca hp9 hf9 hc9 T9 hstb ft fcl
    o_readsAll
    refine ⟨st, p, cq, fl, m, late, L, n, fn fl0, ret, cs, rfl, sc, hpc, hfc, hcc', np, nf, nc, ro, hS, by omega, fun dq drs Hd fdq sd od hdq hdl hdr hdf => ?_⟩
    have O1 : OffN st Hc Hd := (OffN.refl _ _).off od
    have Td := tabs_off Tc sc od
    have hpd := od _ _ np.symm hpc
    have hfd : IL Hd fl n (fn fl0) := od _ _ nf.symm hfc
    have hcd : IL Hd cq n cs := od _ _ nc.symm hcc'
    have htd := htc.off O1
    have hlad := hlc.offN hst9 nl O1
    clear hpc hfc hcc' htc hlc Tc sc O1 fdq hdf
    o_readsAll
    refine c_krows (m := m) ⟨fl, hpd, hfd⟩ hcd ro (by omega) fun kq krs He fkq ee hkq hkl hkr hkf => ?_
    o_readsAll
    rename_i sq Hf fsq ef hsq
    obtain ⟨z1, z2, z3⟩ := cut_rows hkl hkr
    rw [z1] at hsq
    have edf : Same Hd Hf := ee.trans ef
    have hdqf := edf _ _ hdq
    have hdrf := hdr.same edf
    obtain ⟨d1, d2⟩ := rows_data (K := K) hdl hdrf
    obtain ⟨d3, d4⟩ := rows_data (K := K) z2 (z3.same ef)
    refine g_neLL (.of hdqf) (.of hsq) d1 d3 d2 d4 ?_
    rw [decide_eq_true rfl]
    clear hkq hkl hkr hkf hsq z1 z2 z3 d1 d2 d3 d4
    o_readsAll
    refine c_rrows (m := m) (htd.at.same edf) ro (by omega) hlate fun tq trs Hg ftq eg htq htl htr htf => ?_
    o_readsAll
    refine c_mat (alk_rows htq (eg _ _ hdqf) (by omega) htr (hdrf.same eg) (by omega) (by omega)) fun Hh eh => ?_
    have htqh := eh _ _ htq
    have hsz : (trs.map V.ref).length < sizeLine := by rw [List.length_map, sizeLine_eq]; omega
    o_readsAll
    rename_i nl9 Hi fnl9 ei hnl9 N9 hN9
    have htqi := ei _ _ htqh
    have efi : Same Hf (upd Hi tq (.lst (trs.map V.ref ++ [.ref nl9]))) := Eg.Same.put ((eg.trans eh).trans ei) ftq
    refine jnS (fun (σ' : L2.St) (H' : Hp) => σ' = [some (.ref a), some (.ref st), some (.ref p), some (.ref cq), some (.int (late : Int)), some (.int (m : Int)), some (.ref l), some (.ref t), some (.ref dq), some (.ref tq), none, none, none] ∧ Same Hf H') ?_ (fun N2 hN2 => br (fun h => ?_) (fun h => ?_))
    rotate_left
    · obtain ⟨r0, hr0⟩ : ∃ r0, trs[0]? = some r0 := ⟨_, List.getElem?_eq_getElem (by omega)⟩
      obtain ⟨fr0, nr0⟩ := htf r0 (List.mem_of_getElem? hr0)
      have hr0i : IL Hi r0 n (rws L n (fn fl0) ret cs late (0 + 1)) := ((htr 0 r0 hr0).same eh).same ei
      have hr0x : IL (upd Hi tq (.lst (trs.map V.ref ++ [.ref nl9]))) r0 n (rws L n (fn fl0) ret cs late (0 + 1)) := by unfold IL; rw [upd_ne nr0]; exact hr0i
      o_readsAll
      refine g_ixL (.of upd_same) (atI_nat (j := 0) (v := .ref r0) (by rw [List.getElem?_append_left (by rw [List.length_map]; omega), List.getElem?_map, hr0]; rfl)) ?_
      o_readsAll
      refine g_ixLg hr0x.sq (atI_nat (j := 0) (rng_at (by omega))) ?_
      o_readsAll
      refine g_setL hr0x (by rw [rng_len]; exact ixN_at (j := 0) (by omega)) rfl ?_
      exact hN2 _ _ ⟨rfl, Eg.Same.put efi fr0⟩
    · o_readsAll
      exact ⟨rfl, efi⟩
    clear efi htqi htqh htq htr htf hsz hnl9 ei eh eg fnl9
    rintro σ' Hj ⟨rfl, ej⟩
    have edj : Same Hd Hj := edf.trans ej
    have hdqj := ej _ _ hdqf
    have hdrj := hdrf.same ej
    clear hdqf hdrf ej edf
    o_readsAll
    refine c_rrows (m := m) (htd.at.same edj) ro (by omega) hlate fun tq2 trs2 Hk ftq2 ek htq2 htl2 htr2 htf2 => ?_
    o_readsAll
    refine c_mat (alk_rows htq2 (ek _ _ hdqj) (by omega) htr2 (hdrj.same ek) (by omega) (by omega)) fun Hl ell => ?_
    have edl : Same Hd Hl := (edj.trans ek).trans ell
    have Tl := Td.ext edl
    clear htq2 htr2 hdqj hdrj hdq hdr edj ek ell
    o_readsAll
    refine ⟨t, L, n, fn fl0, ret, cs, rfl, htd.at.same edl, ro, Tl, fun Hm em Tm => ?_⟩
    have O2 : OffN st Hd Hm := ((OffN.refl _ _).same edl).ext em
    have sm' : Stk Hm st := (sd.same edl).ext em
    have hfd' := hfd
    have hcd' := hcd
    unfold IL at hfd' hcd'
    o_readsAll
    refine c_kcrowns sm' (htd.off O2) (O2.lst np hpd) (show IL Hm fl n (fn fl0) from O2.lst nf hfd') (show IL Hm cq n cs from O2.lst nc hcd') np nf nc ro hlate Tm fun Hn sn O3 Tn => ?_
    have O4 : OffN st Hd Hn := O2.trans O3
    have hcn := O4.lst nc hcd'
    clear O2 O3 sm' Tm Tl edl em hcd sd Td htd od
    o_readsAll
    refine l_lstS (xs := rng n cs) (fun _ x => 0 ≤ x ∧ x ≤ 10 ^ 30) (fun x => rfl) sn (by rw [rng_len, sizeLine_eq]; omega) hcn nc (fun D i x l' H6 Q' hx hD hDs hl' hll s6 o6 hQ => ?_) fun gq gs Ho fgq so oo hgq hgb => ?_
    · have hi := (List.getElem?_eq_some_iff.mp hx).1
      rw [rng_len] at hi
      rw [rng_at hi] at hx
      cases hx
      o_readsAll
      refine c_draw (by decide) (by decide) s6 fun y H7 y0 y1 s7 o7 => ?_
      o_readsAll
      refine br (fun h => ?_) (fun h => ?_)
      · o_readsAll
        refine c_draw (by decide) (by decide) s7 fun y2 H8 y20 y21 s8 o8 => ?_
        exact hQ y2 H8 ⟨y20, by have h5 : (10 : Int) ^ Int.toNat 30 = 10 ^ 30 := rfl; omega⟩ s8 (o7.trans o8)
      · o_readsAll
        refine hQ (cs i) H7 ⟨(hcb i hi).1, ?_⟩ s7 o7
        have h1 := (hcb i hi).2
        have h2 : (9 : Int) ≤ 10 ^ 30 := by decide
        omega
    rw [rng_len] at hgq hgb
    have O5 : OffN st Hd Ho := O4.off oo
    have To := tabs_off Tn sn oo
    have ngq : st ≠ gq := sn.ne fgq
    have ro2 : ROk L n (fn fl0) gs := ⟨l2, by omega, by omega, n4, okF, fun i hi => (hgb i hi).1, fun i hi => by
      have h1 := hgb i hi
      have h3 : (10 : Int) ^ 30 < 2 ^ 110 := by decide
      have h4 : (2 : Int) ^ 110 = ((2 ^ 110 : Nat) : Int) := by decide
      generalize (2 : Nat) ^ 110 = X at *
      omega⟩
    clear oo O4 hcn Tn fgq
    o_readsAll
    refine c_draw (by decide) (by decide) so fun y Hp y0 y1 sp op => ?_
    have O6 : OffN st Hd Hp := O5.off op
    have Tp := tabs_off To so op
    have hgp : IL Hp gq n gs := op _ _ ngq.symm hgq
    have hgpu := hgp
    unfold IL at hgpu
    clear op O5 To hgq so
    o_readsAll
    refine jnE (fun x H' => ∃ m2 : Nat, x = .int (m2 : Int) ∧ m2 ≤ 300 ∧ H' = Hp) ?_ (fun Q' hQ => br (fun h => ?_) (fun h => ?_))
    rotate_left
    · o_readsAll
      exact hQ _ _ ⟨300, rfl, by decide, rfl⟩
    · o_readsAll
      exact hQ _ _ ⟨7 + m, by rw [Int.natCast_add]; rfl, by omega, rfl⟩
    rintro x G ⟨m2, rfl, hm2, hG⟩
    rw [hG]
    clear hG
    have c0' : ∀ i, i < n → 0 ≤ gs i := fun i hi => (hgb i hi).1
    have hplp : PlA Hp p L n (fn fl0) ret := ⟨fl, O6.lst np hpd, (show IL Hp fl n (fn fl0) from O6.lst nf hfd')⟩
    have hlap := hlad.offN hst9 nl O6
    o_readsAll
    refine c_krows (m := m2) hplp hgp ro2 hm2 fun kq krs Hq fkq eq hkq hkl hkr hkf => ?_
    have hgq' := eq _ _ hgpu
    o_readsAll
    rename_i lg Hr flg er hlg
    have epr : Same Hp Hr := eq.trans er
    refine c_tmakeX (hlap.same epr).at (show IL Hr lg n gs from hlg) (by omega) (fun _ t2 Hs dx2 cl2 ft2 fcl2 es i1 i2 i3 => ?_) (fun r hr => ?_)
    rotate_left
    · rw [ok_wrc c0'] at hr
      cases hr
    have hkqs := es _ _ (er _ _ hkq)
    have hkrs := (hkr.same er).same es
    o_readsAll
    refine c_rrows (m := m2) ⟨dx2, l, cl2, i1, i2, i3⟩ ro2 hm2 hlate fun tq3 trs3 Ht ftq3 et htq3 htl3 htr3 htf3 => ?_
    have hkqt := et _ _ hkqs
    have hkrt := hkrs.same et
    o_readsAll
    rename_i sq2 Hu fsq2 eu hsq2
    obtain ⟨z1, z2, z3⟩ := cut_rows hkl hkrt
    rw [z1] at hsq2
    refine c_mat (alk_rows (eu _ _ htq3) hsq2 (by omega) (htr3.same eu) (z3.same eu) (by omega) (by omega)) fun Hv ev => ?_
    have epv : Same Hp Hv := (((epr.trans es).trans et).trans eu).trans ev
    clear hkq hkl hkr hkf hkqs hkrs hkqt hkrt htq3 htl3 htr3 htf3 hsq2 z1 z2 z3 i1 i2 i3 hlg
    have sv' := sp.same epv
    obtain ⟨v0, v1, v2, hstv⟩ := sv'
    have sv' : Stk Hv st := ⟨v0, v1, v2, hstv⟩
    have hgv := epv _ _ hgpu
    o_readsAll
    refine c_tmakeX (hlap.same epv).at (show IL Hv gq n gs from hgv) (by omega) (fun _ t3 Hw dx3 cl3 ft3 fcl3 ew i1 i2 _ => ?_) (fun r hr => ?_)
    rotate_left
    · rw [ok_wrc c0'] at hr
      cases hr
    have epw : Same Hp Hw := epv.trans ew
    have ht3 : TabS Z.a_Table Z.a_Ladder st Hw t3 L n (fn fl0) ret gs := TabS.of (hlap.same epw) hst9 nl (ne_of_none hstv ft3).symm (ne_of_none hstv fcl3).symm i1 i2
    have hpw := O6.same epw
    o_readsAll
    exact c_kcrowns (sp.same epw) ht3 (hpw.lst np hpd) (show IL Hw fl n (fn fl0) from hpw.lst nf hfd') (show IL Hw gq n gs from epw _ _ hgpu) np nf ngq ro2 hlate (Tp.ext epw) fun Hx _ _ _ => k Hx
end
end L29

end
namespace L29
open PySem PySem.Spec PyProof.Rows L2 Rl Eg
/-- an error of its own class is caught -/
theorem exm_own {K : PySem.W.Frag} {C : Addr} (h1 : PySem.W.subIn K (.ref C) (.type "BaseException") = some true) (h2 : PySem.W.isClsIn K C = true) (h3 : PySem.W.typeIn K (.ref C) = some (.type "type")) (h4 : PySem.W.subIn K (.ref C) (.ref C) = some true) : PySem.W.exmOne K (.ref C) (.ref C) = some true := by
  have z : (PySem.W.clsIn K C).isSome = true := h2
  simp only [PySem.W.exmOne, PySem.W.kitCls, h1, h3, h4, z]
  rfl
theorem all_mk {l : PySem.W.OpenLaw} {w : World} {K : PySem.W.Frag} {h : Heap} {mg : Str → Option Value} {fa a_Ladder a_Table a_LIMITS a_TOLD a_TooMany a_BadLadder a_BadTable a_BadDemand a_WinsError a_BadText a_BadSeason a_BadCode a_BadEvent a_BadFoe a_BadPaper a_BadDisk a_BadDeed c_law_k29_crowns p_law_k29_crowns c_law_k29_refusals p_law_k29_refusals f_TooMany_init f_BadLadder_init f_BadTable_init f_BadDemand_init f_bound f_next_row f_grow f_round_rows f_crown_round f_grown f_load_rows f_head_row f_worth_row f_wrong_rung f_Ladder_init f_Ladder_lanes f_Ladder_rungs f_Ladder_falls f_Ladder_returns f_wrong_count f_Table_init f_Table_ladder f_Table_counts f_law_e_named f_law_e_asked f_law_e_refused f_law_e_falls f_law_e_ladder f_law_stock f_law_draw f_law_matches f_law_k29_step f_law_k29_rows f_law_k29_round f_law_k29_named f_law_k29_due f_law_k29_crowns f_law_k29_refusals f_law : Addr} (X : K.In h) (G : h.Ns mainGlobals mg) (hfa : mg "law" = some (.ref fa))
    {od_TooMany_init an_TooMany_init od_BadLadder_init an_BadLadder_init od_BadTable_init an_BadTable_init od_BadDemand_init an_BadDemand_init od_bound an_bound od_next_row an_next_row od_grow an_grow od_round_rows an_round_rows od_crown_round an_crown_round od_grown an_grown od_load_rows an_load_rows od_head_row an_head_row od_worth_row an_worth_row od_wrong_rung an_wrong_rung od_Ladder_init an_Ladder_init od_Ladder_lanes an_Ladder_lanes od_Ladder_rungs an_Ladder_rungs od_Ladder_falls an_Ladder_falls od_Ladder_returns an_Ladder_returns od_wrong_count an_wrong_count od_Table_init an_Table_init od_Table_ladder an_Table_ladder od_Table_counts an_Table_counts od_law_e_named an_law_e_named od_law_e_asked an_law_e_asked od_law_e_refused an_law_e_refused od_law_e_falls an_law_e_falls od_law_e_ladder an_law_e_ladder od_law_stock an_law_stock od_law_draw an_law_draw od_law_matches an_law_matches od_law_k29_step an_law_k29_step od_law_k29_rows an_law_k29_rows od_law_k29_round an_law_k29_round od_law_k29_named an_law_k29_named od_law_k29_due an_law_k29_due od_law_k29_crowns an_law_k29_crowns vo_law_k29_crowns od_law_k29_refusals an_law_k29_refusals vo_law_k29_refusals od_law an_law : Option Addr}
    {sl_TooMany_init sl_BadLadder_init sl_BadTable_init sl_BadDemand_init sl_bound sl_next_row sl_grow sl_round_rows sl_crown_round sl_grown sl_load_rows sl_head_row sl_worth_row sl_wrong_rung sl_Ladder_init sl_Ladder_lanes sl_Ladder_rungs sl_Ladder_falls sl_Ladder_returns sl_wrong_count sl_Table_init sl_Table_ladder sl_Table_counts sl_law_e_named sl_law_e_asked sl_law_e_refused sl_law_e_falls sl_law_e_ladder sl_law_stock sl_law_draw sl_law_matches sl_law_k29_step sl_law_k29_rows sl_law_k29_round sl_law_k29_named sl_law_k29_due sl_law_k29_crowns vl_law_k29_crowns sl_law_k29_refusals vl_law_k29_refusals sl_law : Array (Option Value)}
    {oc_TooMany_init kV_TooMany_init dc_TooMany_init pm_TooMany_init cd_TooMany_init ct_TooMany_init oc_BadLadder_init kV_BadLadder_init dc_BadLadder_init pm_BadLadder_init cd_BadLadder_init ct_BadLadder_init oc_BadTable_init kV_BadTable_init dc_BadTable_init pm_BadTable_init cd_BadTable_init ct_BadTable_init oc_BadDemand_init kV_BadDemand_init dc_BadDemand_init pm_BadDemand_init cd_BadDemand_init ct_BadDemand_init oc_bound kV_bound dc_bound pm_bound cd_bound ct_bound oc_next_row kV_next_row dc_next_row pm_next_row cd_next_row ct_next_row oc_grow kV_grow dc_grow pm_grow cd_grow ct_grow oc_round_rows kV_round_rows dc_round_rows pm_round_rows cd_round_rows ct_round_rows oc_crown_round kV_crown_round dc_crown_round pm_crown_round cd_crown_round ct_crown_round oc_grown kV_grown dc_grown pm_grown cd_grown ct_grown oc_load_rows kV_load_rows dc_load_rows pm_load_rows cd_load_rows ct_load_rows oc_head_row kV_head_row dc_head_row pm_head_row cd_head_row ct_head_row oc_worth_row kV_worth_row dc_worth_row pm_worth_row cd_worth_row ct_worth_row oc_wrong_rung kV_wrong_rung dc_wrong_rung pm_wrong_rung cd_wrong_rung ct_wrong_rung oc_Ladder_init kV_Ladder_init dc_Ladder_init pm_Ladder_init cd_Ladder_init ct_Ladder_init oc_Ladder_lanes kV_Ladder_lanes dc_Ladder_lanes pm_Ladder_lanes cd_Ladder_lanes ct_Ladder_lanes oc_Ladder_rungs kV_Ladder_rungs dc_Ladder_rungs pm_Ladder_rungs cd_Ladder_rungs ct_Ladder_rungs oc_Ladder_falls kV_Ladder_falls dc_Ladder_falls pm_Ladder_falls cd_Ladder_falls ct_Ladder_falls oc_Ladder_returns kV_Ladder_returns dc_Ladder_returns pm_Ladder_returns cd_Ladder_returns ct_Ladder_returns oc_wrong_count kV_wrong_count dc_wrong_count pm_wrong_count cd_wrong_count ct_wrong_count oc_Table_init kV_Table_init dc_Table_init pm_Table_init cd_Table_init ct_Table_init oc_Table_ladder kV_Table_ladder dc_Table_ladder pm_Table_ladder cd_Table_ladder ct_Table_ladder oc_Table_counts kV_Table_counts dc_Table_counts pm_Table_counts cd_Table_counts ct_Table_counts oc_law_e_named kV_law_e_named dc_law_e_named pm_law_e_named cd_law_e_named ct_law_e_named oc_law_e_asked kV_law_e_asked dc_law_e_asked pm_law_e_asked cd_law_e_asked ct_law_e_asked oc_law_e_refused kV_law_e_refused dc_law_e_refused pm_law_e_refused cd_law_e_refused ct_law_e_refused oc_law_e_falls kV_law_e_falls dc_law_e_falls pm_law_e_falls cd_law_e_falls ct_law_e_falls oc_law_e_ladder kV_law_e_ladder dc_law_e_ladder pm_law_e_ladder cd_law_e_ladder ct_law_e_ladder oc_law_stock kV_law_stock dc_law_stock pm_law_stock cd_law_stock ct_law_stock oc_law_draw kV_law_draw dc_law_draw pm_law_draw cd_law_draw ct_law_draw oc_law_matches kV_law_matches dc_law_matches pm_law_matches cd_law_matches ct_law_matches oc_law_k29_step kV_law_k29_step dc_law_k29_step pm_law_k29_step cd_law_k29_step ct_law_k29_step oc_law_k29_rows kV_law_k29_rows dc_law_k29_rows pm_law_k29_rows cd_law_k29_rows ct_law_k29_rows oc_law_k29_round kV_law_k29_round dc_law_k29_round pm_law_k29_round cd_law_k29_round ct_law_k29_round oc_law_k29_named kV_law_k29_named dc_law_k29_named pm_law_k29_named cd_law_k29_named ct_law_k29_named oc_law_k29_due kV_law_k29_due dc_law_k29_due pm_law_k29_due cd_law_k29_due ct_law_k29_due oc_law_k29_crowns kV_law_k29_crowns dc_law_k29_crowns pm_law_k29_crowns ct_law_k29_crowns oc_law_k29_refusals kV_law_k29_refusals dc_law_k29_refusals pm_law_k29_refusals ct_law_k29_refusals oc_law kV_law dc_law pm_law cd_law ct_law : Value}
    {vs_law_k29_crowns vs_law_k29_refusals : Array Value}
    {t_LIMITS_lines t_LIMITS_words t_LIMITS_number t_LIMITS_depth t_LIMITS_blocks t_LIMITS_lanes t_LIMITS_rungs t_LIMITS_ways t_LIMITS_promises t_LIMITS_variables t_LIMITS_states t_LIMITS_rows t_LIMITS_events t_LIMITS_meetings t_LIMITS_housemeetings t_LIMITS_rounds t_LIMITS_late t_LIMITS_plan t_LIMITS_nodes t_LIMITS_players t_LIMITS_log t_LIMITS_signs t_OUT t_TOLD_blocks t_TOLD_states t_TOLD_housemeetings : Tok}
    {n_LIMITS n_TOLD : Nat}
    {nm_TooMany q_TooMany : Str} {N_TooMany : Addr} {bs_TooMany bm_TooMany : List Value} {sn_TooMany : List Str} {sub_TooMany : List Value} {ab_TooMany : Bool} {col_TooMany : Option Bool} {dd_TooMany : Option Addr} {k0_TooMany k1_TooMany k2_TooMany k3_TooMany k5_TooMany : Option Value}
    {nm_BadLadder q_BadLadder : Str} {N_BadLadder : Addr} {bs_BadLadder bm_BadLadder : List Value} {sn_BadLadder : List Str} {sub_BadLadder : List Value} {ab_BadLadder : Bool} {col_BadLadder : Option Bool} {dd_BadLadder : Option Addr} {k0_BadLadder k1_BadLadder k2_BadLadder k3_BadLadder k5_BadLadder : Option Value}
    {nm_BadTable q_BadTable : Str} {N_BadTable : Addr} {bs_BadTable bm_BadTable : List Value} {sn_BadTable : List Str} {sub_BadTable : List Value} {ab_BadTable : Bool} {col_BadTable : Option Bool} {dd_BadTable : Option Addr} {k0_BadTable k1_BadTable k2_BadTable k3_BadTable k5_BadTable : Option Value}
    {nm_BadDemand q_BadDemand : Str} {N_BadDemand : Addr} {bs_BadDemand bm_BadDemand : List Value} {sn_BadDemand : List Str} {sub_BadDemand : List Value} {ab_BadDemand : Bool} {col_BadDemand : Option Bool} {dd_BadDemand : Option Addr} {k0_BadDemand k1_BadDemand k2_BadDemand k3_BadDemand k5_BadDemand : Option Value}
    {e_LIMITS e_TOLD : Array DictEntry}
    (g_Ladder : PySem.W.nsIn K mainGlobals "Ladder" = some (some (.ref a_Ladder)))
    (pg_Ladder : PySem.W.plainGet K a_Ladder Str.empty = true)
    (hd_Ladder : PySem.W.hasDictIn K a_Ladder = true)
    (po_Ladder : PySem.W.plainOver K a_Ladder = true)
    (sa_Ladder : PySem.W.findIn K (.ref a_Ladder) "__setattr__" = some (some (.builtin "object.__setattr__")))
    (mk_Ladder : PySem.W.makesIn K a_Ladder = true)
    (kc_Ladder : PySem.W.keepIn K (.ref a_Ladder) = true)
    (g_Table : PySem.W.nsIn K mainGlobals "Table" = some (some (.ref a_Table)))
    (pg_Table : PySem.W.plainGet K a_Table Str.empty = true)
    (hd_Table : PySem.W.hasDictIn K a_Table = true)
    (po_Table : PySem.W.plainOver K a_Table = true)
    (sa_Table : PySem.W.findIn K (.ref a_Table) "__setattr__" = some (some (.builtin "object.__setattr__")))
    (mk_Table : PySem.W.makesIn K a_Table = true)
    (kc_Table : PySem.W.keepIn K (.ref a_Table) = true)
    (b_ValueError : PySem.W.nsIn K mainGlobals "ValueError" = some none)
    (b_abs : PySem.W.nsIn K mainGlobals "abs" = some none)
    (b_bool : PySem.W.nsIn K mainGlobals "bool" = some none)
    (b_enumerate : PySem.W.nsIn K mainGlobals "enumerate" = some none)
    (b_int : PySem.W.nsIn K mainGlobals "int" = some none)
    (b_isinstance : PySem.W.nsIn K mainGlobals "isinstance" = some none)
    (b_len : PySem.W.nsIn K mainGlobals "len" = some none)
    (b_list : PySem.W.nsIn K mainGlobals "list" = some none)
    (b_max : PySem.W.nsIn K mainGlobals "max" = some none)
    (b_range : PySem.W.nsIn K mainGlobals "range" = some none)
    (b_reversed : PySem.W.nsIn K mainGlobals "reversed" = some none)
    (b_str : PySem.W.nsIn K mainGlobals "str" = some none)
    (b_sum : PySem.W.nsIn K mainGlobals "sum" = some none)
    (b_tuple : PySem.W.nsIn K mainGlobals "tuple" = some none)
    (c_LIMITS : PySem.W.nsIn K mainGlobals "LIMITS" = some (some (.ref a_LIMITS)))
    (l_LIMITS : K.lookup a_LIMITS = some ⟨.type "dict", none, .dict e_LIMITS n_LIMITS, #[]⟩)
    (kl_LIMITS : PySem.W.KeysLit w.params (e_LIMITS).toList)
    (v_LIMITS_lines : PySem.W.nsIn K a_LIMITS "lines" = some (some (.int 300 t_LIMITS_lines)))
    (v_LIMITS_words : PySem.W.nsIn K a_LIMITS "words" = some (some (.int 60 t_LIMITS_words)))
    (v_LIMITS_number : PySem.W.nsIn K a_LIMITS "number" = some (some (.int 1000000000000000000000000000000 t_LIMITS_number)))
    (v_LIMITS_depth : PySem.W.nsIn K a_LIMITS "depth" = some (some (.int 20 t_LIMITS_depth)))
    (v_LIMITS_blocks : PySem.W.nsIn K a_LIMITS "blocks" = some (some (.int 12 t_LIMITS_blocks)))
    (v_LIMITS_lanes : PySem.W.nsIn K a_LIMITS "lanes" = some (some (.int 6 t_LIMITS_lanes)))
    (v_LIMITS_rungs : PySem.W.nsIn K a_LIMITS "rungs" = some (some (.int 40 t_LIMITS_rungs)))
    (v_LIMITS_ways : PySem.W.nsIn K a_LIMITS "ways" = some (some (.int 8 t_LIMITS_ways)))
    (v_LIMITS_promises : PySem.W.nsIn K a_LIMITS "promises" = some (some (.int 20 t_LIMITS_promises)))
    (v_LIMITS_variables : PySem.W.nsIn K a_LIMITS "variables" = some (some (.int 4 t_LIMITS_variables)))
    (v_LIMITS_states : PySem.W.nsIn K a_LIMITS "states" = some (some (.int 400 t_LIMITS_states)))
    (v_LIMITS_rows : PySem.W.nsIn K a_LIMITS "rows" = some (some (.int 600 t_LIMITS_rows)))
    (v_LIMITS_events : PySem.W.nsIn K a_LIMITS "events" = some (some (.int 3000 t_LIMITS_events)))
    (v_LIMITS_meetings : PySem.W.nsIn K a_LIMITS "meetings" = some (some (.int 3000 t_LIMITS_meetings)))
    (v_LIMITS_housemeetings : PySem.W.nsIn K a_LIMITS "housemeetings" = some (some (.int 400 t_LIMITS_housemeetings)))
    (v_LIMITS_rounds : PySem.W.nsIn K a_LIMITS "rounds" = some (some (.int 300 t_LIMITS_rounds)))
    (v_LIMITS_late : PySem.W.nsIn K a_LIMITS "late" = some (some (.int 6 t_LIMITS_late)))
    (v_LIMITS_plan : PySem.W.nsIn K a_LIMITS "plan" = some (some (.int 200 t_LIMITS_plan)))
    (v_LIMITS_nodes : PySem.W.nsIn K a_LIMITS "nodes" = some (some (.int 2000 t_LIMITS_nodes)))
    (v_LIMITS_players : PySem.W.nsIn K a_LIMITS "players" = some (some (.int 60 t_LIMITS_players)))
    (v_LIMITS_log : PySem.W.nsIn K a_LIMITS "log" = some (some (.int 2000 t_LIMITS_log)))
    (v_LIMITS_signs : PySem.W.nsIn K a_LIMITS "signs" = some (some (.int 2000 t_LIMITS_signs)))
    (c_OUT : PySem.W.nsIn K mainGlobals "OUT" = some (some (.int (-1) t_OUT)))
    (c_TOLD : PySem.W.nsIn K mainGlobals "TOLD" = some (some (.ref a_TOLD)))
    (l_TOLD : K.lookup a_TOLD = some ⟨.type "dict", none, .dict e_TOLD n_TOLD, #[]⟩)
    (kl_TOLD : PySem.W.KeysLit w.params (e_TOLD).toList)
    (v_TOLD_blocks : PySem.W.nsIn K a_TOLD "blocks" = some (some (.str "depth" t_TOLD_blocks)))
    (v_TOLD_states : PySem.W.nsIn K a_TOLD "states" = some (some (.str "variables" t_TOLD_states)))
    (v_TOLD_housemeetings : PySem.W.nsIn K a_TOLD "housemeetings" = some (some (.str "meetings" t_TOLD_housemeetings)))
    (sm_TOLD : (a_TOLD == sysModules) = false)
    (mi_TOLD_lanes : PySem.W.nsIn K a_TOLD "lanes" = some none)
    (mi_TOLD_rungs : PySem.W.nsIn K a_TOLD "rungs" = some none)
    (mi_TOLD_rounds : PySem.W.nsIn K a_TOLD "rounds" = some none)
    (mi_TOLD_late : PySem.W.nsIn K a_TOLD "late" = some none)
    (n_Ladder_lanes_number : PySem.W.findIn K (.ref a_Ladder) "lanes_number" = some none)
    (n_Ladder_falls_list : PySem.W.findIn K (.ref a_Ladder) "falls_list" = some none)
    (n_Ladder_returns_kept : PySem.W.findIn K (.ref a_Ladder) "returns_kept" = some none)
    (n_Ladder_loads_table : PySem.W.findIn K (.ref a_Ladder) "loads_table" = some none)
    (n_Ladder_heads_list : PySem.W.findIn K (.ref a_Ladder) "heads_list" = some none)
    (n_Ladder_worths_list : PySem.W.findIn K (.ref a_Ladder) "worths_list" = some none)
    (n_Table_ladder_kept : PySem.W.findIn K (.ref a_Table) "ladder_kept" = some none)
    (n_Table_counts_list : PySem.W.findIn K (.ref a_Table) "counts_list" = some none)
    (g_TooMany : PySem.W.nsIn K mainGlobals "TooMany" = some (some (.ref a_TooMany)))
    (xl_TooMany : K.lookup a_TooMany = some (excClassObj nm_TooMany q_TooMany a_TooMany N_TooMany bs_TooMany bm_TooMany true sn_TooMany sub_TooMany ab_TooMany col_TooMany dd_TooMany k0_TooMany k1_TooMany k2_TooMany k3_TooMany k5_TooMany "ValueError.__new__"))
    (rv_TooMany : PySem.HandSPX.refsVE bm_TooMany = true)
    (sa_TooMany : PySem.W.findIn K (.ref a_TooMany) "__setattr__" = some (some (.builtin "object.__setattr__")))
    (ec_TooMany : PySem.W.subIn K (.ref a_TooMany) (.type "BaseException") = some true)
    (ty_TooMany : PySem.W.typeIn K (.ref a_TooMany) = some (.type "type"))
    (kc_TooMany : PySem.W.keepIn K (.ref a_TooMany) = true)
    (ga_TooMany : PySem.W.findIn K (.ref a_TooMany) "__getattribute__" = some (some (.builtin "BaseException.__getattribute__")))
    (gg_TooMany : PySem.W.findIn K (.ref a_TooMany) "__getattr__" = some none)
    (hd_TooMany : PySem.W.hasDictIn K a_TooMany = true)
    (ic_TooMany : PySem.W.isClsIn K a_TooMany = true)
    (ss_TooMany : PySem.W.subIn K (.ref a_TooMany) (.ref a_TooMany) = some true)
    (n_TooMany_what : PySem.W.findIn K (.ref a_TooMany) "what" = some none)
    (g_BadLadder : PySem.W.nsIn K mainGlobals "BadLadder" = some (some (.ref a_BadLadder)))
    (xl_BadLadder : K.lookup a_BadLadder = some (excClassObj nm_BadLadder q_BadLadder a_BadLadder N_BadLadder bs_BadLadder bm_BadLadder true sn_BadLadder sub_BadLadder ab_BadLadder col_BadLadder dd_BadLadder k0_BadLadder k1_BadLadder k2_BadLadder k3_BadLadder k5_BadLadder "ValueError.__new__"))
    (rv_BadLadder : PySem.HandSPX.refsVE bm_BadLadder = true)
    (sa_BadLadder : PySem.W.findIn K (.ref a_BadLadder) "__setattr__" = some (some (.builtin "object.__setattr__")))
    (ec_BadLadder : PySem.W.subIn K (.ref a_BadLadder) (.type "BaseException") = some true)
    (ty_BadLadder : PySem.W.typeIn K (.ref a_BadLadder) = some (.type "type"))
    (kc_BadLadder : PySem.W.keepIn K (.ref a_BadLadder) = true)
    (ga_BadLadder : PySem.W.findIn K (.ref a_BadLadder) "__getattribute__" = some (some (.builtin "BaseException.__getattribute__")))
    (gg_BadLadder : PySem.W.findIn K (.ref a_BadLadder) "__getattr__" = some none)
    (hd_BadLadder : PySem.W.hasDictIn K a_BadLadder = true)
    (ic_BadLadder : PySem.W.isClsIn K a_BadLadder = true)
    (ss_BadLadder : PySem.W.subIn K (.ref a_BadLadder) (.ref a_BadLadder) = some true)
    (n_BadLadder_rung : PySem.W.findIn K (.ref a_BadLadder) "rung" = some none)
    (g_BadTable : PySem.W.nsIn K mainGlobals "BadTable" = some (some (.ref a_BadTable)))
    (xl_BadTable : K.lookup a_BadTable = some (excClassObj nm_BadTable q_BadTable a_BadTable N_BadTable bs_BadTable bm_BadTable true sn_BadTable sub_BadTable ab_BadTable col_BadTable dd_BadTable k0_BadTable k1_BadTable k2_BadTable k3_BadTable k5_BadTable "ValueError.__new__"))
    (rv_BadTable : PySem.HandSPX.refsVE bm_BadTable = true)
    (sa_BadTable : PySem.W.findIn K (.ref a_BadTable) "__setattr__" = some (some (.builtin "object.__setattr__")))
    (ec_BadTable : PySem.W.subIn K (.ref a_BadTable) (.type "BaseException") = some true)
    (ty_BadTable : PySem.W.typeIn K (.ref a_BadTable) = some (.type "type"))
    (kc_BadTable : PySem.W.keepIn K (.ref a_BadTable) = true)
    (ga_BadTable : PySem.W.findIn K (.ref a_BadTable) "__getattribute__" = some (some (.builtin "BaseException.__getattribute__")))
    (gg_BadTable : PySem.W.findIn K (.ref a_BadTable) "__getattr__" = some none)
    (hd_BadTable : PySem.W.hasDictIn K a_BadTable = true)
    (ic_BadTable : PySem.W.isClsIn K a_BadTable = true)
    (ss_BadTable : PySem.W.subIn K (.ref a_BadTable) (.ref a_BadTable) = some true)
    (n_BadTable_rung : PySem.W.findIn K (.ref a_BadTable) "rung" = some none)
    (g_BadDemand : PySem.W.nsIn K mainGlobals "BadDemand" = some (some (.ref a_BadDemand)))
    (xl_BadDemand : K.lookup a_BadDemand = some (excClassObj nm_BadDemand q_BadDemand a_BadDemand N_BadDemand bs_BadDemand bm_BadDemand true sn_BadDemand sub_BadDemand ab_BadDemand col_BadDemand dd_BadDemand k0_BadDemand k1_BadDemand k2_BadDemand k3_BadDemand k5_BadDemand "ValueError.__new__"))
    (rv_BadDemand : PySem.HandSPX.refsVE bm_BadDemand = true)
    (sa_BadDemand : PySem.W.findIn K (.ref a_BadDemand) "__setattr__" = some (some (.builtin "object.__setattr__")))
    (ec_BadDemand : PySem.W.subIn K (.ref a_BadDemand) (.type "BaseException") = some true)
    (ty_BadDemand : PySem.W.typeIn K (.ref a_BadDemand) = some (.type "type"))
    (kc_BadDemand : PySem.W.keepIn K (.ref a_BadDemand) = true)
    (ga_BadDemand : PySem.W.findIn K (.ref a_BadDemand) "__getattribute__" = some (some (.builtin "BaseException.__getattribute__")))
    (gg_BadDemand : PySem.W.findIn K (.ref a_BadDemand) "__getattr__" = some none)
    (hd_BadDemand : PySem.W.hasDictIn K a_BadDemand = true)
    (ic_BadDemand : PySem.W.isClsIn K a_BadDemand = true)
    (ss_BadDemand : PySem.W.subIn K (.ref a_BadDemand) (.ref a_BadDemand) = some true)
    (n_BadDemand_what : PySem.W.findIn K (.ref a_BadDemand) "what" = some none)
    (g_WinsError : PySem.W.nsIn K mainGlobals "WinsError" = some (some (.ref a_WinsError)))
    (wg_WinsError : PySem.W.specialIn K (.ref a_WinsError) "__getattribute__" = some (some (.builtin "type.__getattribute__")))
    (wr_WinsError : PySem.W.readsIn K a_WinsError (.type "type") = true)
    (wv_WinsError : PySem.W.findCls K (.ref a_WinsError) (.type "type") "__init__" = some (.val (.builtin "ValueError.__init__")))
    (g_BadText : PySem.W.nsIn K mainGlobals "BadText" = some (some (.ref a_BadText)))
    (g_BadSeason : PySem.W.nsIn K mainGlobals "BadSeason" = some (some (.ref a_BadSeason)))
    (g_BadCode : PySem.W.nsIn K mainGlobals "BadCode" = some (some (.ref a_BadCode)))
    (g_BadEvent : PySem.W.nsIn K mainGlobals "BadEvent" = some (some (.ref a_BadEvent)))
    (g_BadFoe : PySem.W.nsIn K mainGlobals "BadFoe" = some (some (.ref a_BadFoe)))
    (g_BadPaper : PySem.W.nsIn K mainGlobals "BadPaper" = some (some (.ref a_BadPaper)))
    (g_BadDisk : PySem.W.nsIn K mainGlobals "BadDisk" = some (some (.ref a_BadDisk)))
    (g_BadDeed : PySem.W.nsIn K mainGlobals "BadDeed" = some (some (.ref a_BadDeed)))
    (xc_TooMany : PySem.W.findIn K (.ref a_TooMany) "__class__" = some (some (.builtin "object.__class__")))
    (xg_TooMany : PySem.W.specialIn K (.builtin "object.__class__") "__get__" = some (some (.builtin "getset_descriptor.__get__")))
    (xt_TooMany : PySem.W.takesIn K (.builtin "object.__class__") = some true)
    (xm_TooMany : PySem.W.mroIn K a_TooMany (.type "object") = some true)
    (ki_TooMany_TooMany : PySem.W.kitOne K (.ref a_TooMany) (.ref a_TooMany) = some true)
    (ki_TooMany_BadLadder : PySem.W.kitOne K (.ref a_TooMany) (.ref a_BadLadder) = some false)
    (ki_TooMany_BadTable : PySem.W.kitOne K (.ref a_TooMany) (.ref a_BadTable) = some false)
    (ki_TooMany_BadDemand : PySem.W.kitOne K (.ref a_TooMany) (.ref a_BadDemand) = some false)
    (ki_TooMany_ValueError : PySem.W.kitOne K (.ref a_TooMany) (.type "ValueError") = some true)
    (ka_TooMany_0 : PySem.W.kitAny K (.ref a_TooMany) [.ref a_BadText, .ref a_BadSeason, .ref a_BadCode, .ref a_BadEvent, .ref a_BadFoe, .ref a_BadPaper, .ref a_BadDisk, .ref a_BadDeed] = some false)
    (mm_TooMany_WinsError : PySem.W.exmOne K (.ref a_TooMany) (.ref a_WinsError) = some true)
    (xc_BadLadder : PySem.W.findIn K (.ref a_BadLadder) "__class__" = some (some (.builtin "object.__class__")))
    (xg_BadLadder : PySem.W.specialIn K (.builtin "object.__class__") "__get__" = some (some (.builtin "getset_descriptor.__get__")))
    (xt_BadLadder : PySem.W.takesIn K (.builtin "object.__class__") = some true)
    (xm_BadLadder : PySem.W.mroIn K a_BadLadder (.type "object") = some true)
    (ki_BadLadder_TooMany : PySem.W.kitOne K (.ref a_BadLadder) (.ref a_TooMany) = some false)
    (ki_BadLadder_BadLadder : PySem.W.kitOne K (.ref a_BadLadder) (.ref a_BadLadder) = some true)
    (ki_BadLadder_BadTable : PySem.W.kitOne K (.ref a_BadLadder) (.ref a_BadTable) = some false)
    (ki_BadLadder_BadDemand : PySem.W.kitOne K (.ref a_BadLadder) (.ref a_BadDemand) = some false)
    (ki_BadLadder_ValueError : PySem.W.kitOne K (.ref a_BadLadder) (.type "ValueError") = some true)
    (ka_BadLadder_0 : PySem.W.kitAny K (.ref a_BadLadder) [.ref a_BadText, .ref a_BadSeason, .ref a_BadCode, .ref a_BadEvent, .ref a_BadFoe, .ref a_BadPaper, .ref a_BadDisk, .ref a_BadDeed] = some false)
    (mm_BadLadder_WinsError : PySem.W.exmOne K (.ref a_BadLadder) (.ref a_WinsError) = some true)
    (xc_BadTable : PySem.W.findIn K (.ref a_BadTable) "__class__" = some (some (.builtin "object.__class__")))
    (xg_BadTable : PySem.W.specialIn K (.builtin "object.__class__") "__get__" = some (some (.builtin "getset_descriptor.__get__")))
    (xt_BadTable : PySem.W.takesIn K (.builtin "object.__class__") = some true)
    (xm_BadTable : PySem.W.mroIn K a_BadTable (.type "object") = some true)
    (ki_BadTable_TooMany : PySem.W.kitOne K (.ref a_BadTable) (.ref a_TooMany) = some false)
    (ki_BadTable_BadLadder : PySem.W.kitOne K (.ref a_BadTable) (.ref a_BadLadder) = some false)
    (ki_BadTable_BadTable : PySem.W.kitOne K (.ref a_BadTable) (.ref a_BadTable) = some true)
    (ki_BadTable_BadDemand : PySem.W.kitOne K (.ref a_BadTable) (.ref a_BadDemand) = some false)
    (ki_BadTable_ValueError : PySem.W.kitOne K (.ref a_BadTable) (.type "ValueError") = some true)
    (ka_BadTable_0 : PySem.W.kitAny K (.ref a_BadTable) [.ref a_BadText, .ref a_BadSeason, .ref a_BadCode, .ref a_BadEvent, .ref a_BadFoe, .ref a_BadPaper, .ref a_BadDisk, .ref a_BadDeed] = some false)
    (mm_BadTable_WinsError : PySem.W.exmOne K (.ref a_BadTable) (.ref a_WinsError) = some true)
    (xc_BadDemand : PySem.W.findIn K (.ref a_BadDemand) "__class__" = some (some (.builtin "object.__class__")))
    (xg_BadDemand : PySem.W.specialIn K (.builtin "object.__class__") "__get__" = some (some (.builtin "getset_descriptor.__get__")))
    (xt_BadDemand : PySem.W.takesIn K (.builtin "object.__class__") = some true)
    (xm_BadDemand : PySem.W.mroIn K a_BadDemand (.type "object") = some true)
    (ki_BadDemand_TooMany : PySem.W.kitOne K (.ref a_BadDemand) (.ref a_TooMany) = some false)
    (ki_BadDemand_BadLadder : PySem.W.kitOne K (.ref a_BadDemand) (.ref a_BadLadder) = some false)
    (ki_BadDemand_BadTable : PySem.W.kitOne K (.ref a_BadDemand) (.ref a_BadTable) = some false)
    (ki_BadDemand_BadDemand : PySem.W.kitOne K (.ref a_BadDemand) (.ref a_BadDemand) = some true)
    (ki_BadDemand_ValueError : PySem.W.kitOne K (.ref a_BadDemand) (.type "ValueError") = some true)
    (ka_BadDemand_0 : PySem.W.kitAny K (.ref a_BadDemand) [.ref a_BadText, .ref a_BadSeason, .ref a_BadCode, .ref a_BadEvent, .ref a_BadFoe, .ref a_BadPaper, .ref a_BadDisk, .ref a_BadDeed] = some false)
    (mm_BadDemand_WinsError : PySem.W.exmOne K (.ref a_BadDemand) (.ref a_WinsError) = some true)
    (at_TooMany_init : PySem.W.findIn K (.ref a_TooMany) "__init__" = some (some (.ref f_TooMany_init)))
    (tf_TooMany_init : PySem.W.typeIn K (.ref f_TooMany_init) = some (.type "function"))
    (lk_TooMany_init : K.lookup f_TooMany_init = some ⟨oc_TooMany_init, od_TooMany_init, .func (PySem.W.fnOf "__init__" "TooMany.__init__" (defArgs st_TooMany_init) (defBody st_TooMany_init) (defScope st_TooMany_init) .none kV_TooMany_init dc_TooMany_init pm_TooMany_init an_TooMany_init cd_TooMany_init ct_TooMany_init), sl_TooMany_init⟩)
    (co_TooMany_init : PySem.W.codeIn K cd_TooMany_init "TooMany.__init__" = true)
    (kp_TooMany_init : PySem.W.keepIn K (.ref f_TooMany_init) = true)
    (at_BadLadder_init : PySem.W.findIn K (.ref a_BadLadder) "__init__" = some (some (.ref f_BadLadder_init)))
    (tf_BadLadder_init : PySem.W.typeIn K (.ref f_BadLadder_init) = some (.type "function"))
    (lk_BadLadder_init : K.lookup f_BadLadder_init = some ⟨oc_BadLadder_init, od_BadLadder_init, .func (PySem.W.fnOf "__init__" "BadLadder.__init__" (defArgs st_BadLadder_init) (defBody st_BadLadder_init) (defScope st_BadLadder_init) .none kV_BadLadder_init dc_BadLadder_init pm_BadLadder_init an_BadLadder_init cd_BadLadder_init ct_BadLadder_init), sl_BadLadder_init⟩)
    (co_BadLadder_init : PySem.W.codeIn K cd_BadLadder_init "BadLadder.__init__" = true)
    (kp_BadLadder_init : PySem.W.keepIn K (.ref f_BadLadder_init) = true)
    (at_BadTable_init : PySem.W.findIn K (.ref a_BadTable) "__init__" = some (some (.ref f_BadTable_init)))
    (tf_BadTable_init : PySem.W.typeIn K (.ref f_BadTable_init) = some (.type "function"))
    (lk_BadTable_init : K.lookup f_BadTable_init = some ⟨oc_BadTable_init, od_BadTable_init, .func (PySem.W.fnOf "__init__" "BadTable.__init__" (defArgs st_BadTable_init) (defBody st_BadTable_init) (defScope st_BadTable_init) .none kV_BadTable_init dc_BadTable_init pm_BadTable_init an_BadTable_init cd_BadTable_init ct_BadTable_init), sl_BadTable_init⟩)
    (co_BadTable_init : PySem.W.codeIn K cd_BadTable_init "BadTable.__init__" = true)
    (kp_BadTable_init : PySem.W.keepIn K (.ref f_BadTable_init) = true)
    (at_BadDemand_init : PySem.W.findIn K (.ref a_BadDemand) "__init__" = some (some (.ref f_BadDemand_init)))
    (tf_BadDemand_init : PySem.W.typeIn K (.ref f_BadDemand_init) = some (.type "function"))
    (lk_BadDemand_init : K.lookup f_BadDemand_init = some ⟨oc_BadDemand_init, od_BadDemand_init, .func (PySem.W.fnOf "__init__" "BadDemand.__init__" (defArgs st_BadDemand_init) (defBody st_BadDemand_init) (defScope st_BadDemand_init) .none kV_BadDemand_init dc_BadDemand_init pm_BadDemand_init an_BadDemand_init cd_BadDemand_init ct_BadDemand_init), sl_BadDemand_init⟩)
    (co_BadDemand_init : PySem.W.codeIn K cd_BadDemand_init "BadDemand.__init__" = true)
    (kp_BadDemand_init : PySem.W.keepIn K (.ref f_BadDemand_init) = true)
    (at_bound : PySem.W.nsIn K mainGlobals "bound" = some (some (.ref f_bound)))
    (lk_bound : K.lookup f_bound = some ⟨oc_bound, od_bound, .func (PySem.W.fnOf "bound" "bound" (defArgs st_bound) (defBody st_bound) (defScope st_bound) .none kV_bound dc_bound pm_bound an_bound cd_bound ct_bound), sl_bound⟩)
    (co_bound : PySem.W.codeIn K cd_bound "bound" = true)
    (kp_bound : PySem.W.keepIn K (.ref f_bound) = true)
    (at_next_row : PySem.W.nsIn K mainGlobals "next_row" = some (some (.ref f_next_row)))
    (lk_next_row : K.lookup f_next_row = some ⟨oc_next_row, od_next_row, .func (PySem.W.fnOf "next_row" "next_row" (defArgs st_next_row) (defBody st_next_row) (defScope st_next_row) .none kV_next_row dc_next_row pm_next_row an_next_row cd_next_row ct_next_row), sl_next_row⟩)
    (co_next_row : PySem.W.codeIn K cd_next_row "next_row" = true)
    (kp_next_row : PySem.W.keepIn K (.ref f_next_row) = true)
    (at_grow : PySem.W.nsIn K mainGlobals "grow" = some (some (.ref f_grow)))
    (lk_grow : K.lookup f_grow = some ⟨oc_grow, od_grow, .func (PySem.W.fnOf "grow" "grow" (defArgs st_grow) (defBody st_grow) (defScope st_grow) .none kV_grow dc_grow pm_grow an_grow cd_grow ct_grow), sl_grow⟩)
    (co_grow : PySem.W.codeIn K cd_grow "grow" = true)
    (kp_grow : PySem.W.keepIn K (.ref f_grow) = true)
    (at_round_rows : PySem.W.nsIn K mainGlobals "round_rows" = some (some (.ref f_round_rows)))
    (lk_round_rows : K.lookup f_round_rows = some ⟨oc_round_rows, od_round_rows, .func (PySem.W.fnOf "round_rows" "round_rows" (defArgs st_round_rows) (defBody st_round_rows) (defScope st_round_rows) .none kV_round_rows dc_round_rows pm_round_rows an_round_rows cd_round_rows ct_round_rows), sl_round_rows⟩)
    (co_round_rows : PySem.W.codeIn K cd_round_rows "round_rows" = true)
    (kp_round_rows : PySem.W.keepIn K (.ref f_round_rows) = true)
    (at_crown_round : PySem.W.nsIn K mainGlobals "crown_round" = some (some (.ref f_crown_round)))
    (lk_crown_round : K.lookup f_crown_round = some ⟨oc_crown_round, od_crown_round, .func (PySem.W.fnOf "crown_round" "crown_round" (defArgs st_crown_round) (defBody st_crown_round) (defScope st_crown_round) .none kV_crown_round dc_crown_round pm_crown_round an_crown_round cd_crown_round ct_crown_round), sl_crown_round⟩)
    (co_crown_round : PySem.W.codeIn K cd_crown_round "crown_round" = true)
    (kp_crown_round : PySem.W.keepIn K (.ref f_crown_round) = true)
    (at_grown : PySem.W.nsIn K mainGlobals "grown" = some (some (.ref f_grown)))
    (lk_grown : K.lookup f_grown = some ⟨oc_grown, od_grown, .func (PySem.W.fnOf "grown" "grown" (defArgs st_grown) (defBody st_grown) (defScope st_grown) .none kV_grown dc_grown pm_grown an_grown cd_grown ct_grown), sl_grown⟩)
    (co_grown : PySem.W.codeIn K cd_grown "grown" = true)
    (kp_grown : PySem.W.keepIn K (.ref f_grown) = true)
    (at_load_rows : PySem.W.nsIn K mainGlobals "load_rows" = some (some (.ref f_load_rows)))
    (lk_load_rows : K.lookup f_load_rows = some ⟨oc_load_rows, od_load_rows, .func (PySem.W.fnOf "load_rows" "load_rows" (defArgs st_load_rows) (defBody st_load_rows) (defScope st_load_rows) .none kV_load_rows dc_load_rows pm_load_rows an_load_rows cd_load_rows ct_load_rows), sl_load_rows⟩)
    (co_load_rows : PySem.W.codeIn K cd_load_rows "load_rows" = true)
    (kp_load_rows : PySem.W.keepIn K (.ref f_load_rows) = true)
    (at_head_row : PySem.W.nsIn K mainGlobals "head_row" = some (some (.ref f_head_row)))
    (lk_head_row : K.lookup f_head_row = some ⟨oc_head_row, od_head_row, .func (PySem.W.fnOf "head_row" "head_row" (defArgs st_head_row) (defBody st_head_row) (defScope st_head_row) .none kV_head_row dc_head_row pm_head_row an_head_row cd_head_row ct_head_row), sl_head_row⟩)
    (co_head_row : PySem.W.codeIn K cd_head_row "head_row" = true)
    (kp_head_row : PySem.W.keepIn K (.ref f_head_row) = true)
    (at_worth_row : PySem.W.nsIn K mainGlobals "worth_row" = some (some (.ref f_worth_row)))
    (lk_worth_row : K.lookup f_worth_row = some ⟨oc_worth_row, od_worth_row, .func (PySem.W.fnOf "worth_row" "worth_row" (defArgs st_worth_row) (defBody st_worth_row) (defScope st_worth_row) .none kV_worth_row dc_worth_row pm_worth_row an_worth_row cd_worth_row ct_worth_row), sl_worth_row⟩)
    (co_worth_row : PySem.W.codeIn K cd_worth_row "worth_row" = true)
    (kp_worth_row : PySem.W.keepIn K (.ref f_worth_row) = true)
    (at_wrong_rung : PySem.W.nsIn K mainGlobals "wrong_rung" = some (some (.ref f_wrong_rung)))
    (lk_wrong_rung : K.lookup f_wrong_rung = some ⟨oc_wrong_rung, od_wrong_rung, .func (PySem.W.fnOf "wrong_rung" "wrong_rung" (defArgs st_wrong_rung) (defBody st_wrong_rung) (defScope st_wrong_rung) .none kV_wrong_rung dc_wrong_rung pm_wrong_rung an_wrong_rung cd_wrong_rung ct_wrong_rung), sl_wrong_rung⟩)
    (co_wrong_rung : PySem.W.codeIn K cd_wrong_rung "wrong_rung" = true)
    (kp_wrong_rung : PySem.W.keepIn K (.ref f_wrong_rung) = true)
    (at_Ladder_init : PySem.W.findIn K (.ref a_Ladder) "__init__" = some (some (.ref f_Ladder_init)))
    (fn_Ladder_init : PySem.W.isFn K (.ref f_Ladder_init) = true)
    (lk_Ladder_init : K.lookup f_Ladder_init = some ⟨oc_Ladder_init, od_Ladder_init, .func (PySem.W.fnOf "__init__" "Ladder.__init__" (defArgs st_Ladder_init) (defBody st_Ladder_init) (defScope st_Ladder_init) .none kV_Ladder_init dc_Ladder_init pm_Ladder_init an_Ladder_init cd_Ladder_init ct_Ladder_init), sl_Ladder_init⟩)
    (co_Ladder_init : PySem.W.codeIn K cd_Ladder_init "Ladder.__init__" = true)
    (kp_Ladder_init : PySem.W.keepIn K (.ref f_Ladder_init) = true)
    (at_Ladder_lanes : PySem.W.findIn K (.ref a_Ladder) "lanes" = some (some (.ref f_Ladder_lanes)))
    (fn_Ladder_lanes : PySem.W.isFn K (.ref f_Ladder_lanes) = true)
    (lk_Ladder_lanes : K.lookup f_Ladder_lanes = some ⟨oc_Ladder_lanes, od_Ladder_lanes, .func (PySem.W.fnOf "lanes" "Ladder.lanes" (defArgs st_Ladder_lanes) (defBody st_Ladder_lanes) (defScope st_Ladder_lanes) .none kV_Ladder_lanes dc_Ladder_lanes pm_Ladder_lanes an_Ladder_lanes cd_Ladder_lanes ct_Ladder_lanes), sl_Ladder_lanes⟩)
    (co_Ladder_lanes : PySem.W.codeIn K cd_Ladder_lanes "Ladder.lanes" = true)
    (kp_Ladder_lanes : PySem.W.keepIn K (.ref f_Ladder_lanes) = true)
    (at_Ladder_rungs : PySem.W.findIn K (.ref a_Ladder) "rungs" = some (some (.ref f_Ladder_rungs)))
    (fn_Ladder_rungs : PySem.W.isFn K (.ref f_Ladder_rungs) = true)
    (lk_Ladder_rungs : K.lookup f_Ladder_rungs = some ⟨oc_Ladder_rungs, od_Ladder_rungs, .func (PySem.W.fnOf "rungs" "Ladder.rungs" (defArgs st_Ladder_rungs) (defBody st_Ladder_rungs) (defScope st_Ladder_rungs) .none kV_Ladder_rungs dc_Ladder_rungs pm_Ladder_rungs an_Ladder_rungs cd_Ladder_rungs ct_Ladder_rungs), sl_Ladder_rungs⟩)
    (co_Ladder_rungs : PySem.W.codeIn K cd_Ladder_rungs "Ladder.rungs" = true)
    (kp_Ladder_rungs : PySem.W.keepIn K (.ref f_Ladder_rungs) = true)
    (at_Ladder_falls : PySem.W.findIn K (.ref a_Ladder) "falls" = some (some (.ref f_Ladder_falls)))
    (fn_Ladder_falls : PySem.W.isFn K (.ref f_Ladder_falls) = true)
    (lk_Ladder_falls : K.lookup f_Ladder_falls = some ⟨oc_Ladder_falls, od_Ladder_falls, .func (PySem.W.fnOf "falls" "Ladder.falls" (defArgs st_Ladder_falls) (defBody st_Ladder_falls) (defScope st_Ladder_falls) .none kV_Ladder_falls dc_Ladder_falls pm_Ladder_falls an_Ladder_falls cd_Ladder_falls ct_Ladder_falls), sl_Ladder_falls⟩)
    (co_Ladder_falls : PySem.W.codeIn K cd_Ladder_falls "Ladder.falls" = true)
    (kp_Ladder_falls : PySem.W.keepIn K (.ref f_Ladder_falls) = true)
    (at_Ladder_returns : PySem.W.findIn K (.ref a_Ladder) "returns" = some (some (.ref f_Ladder_returns)))
    (fn_Ladder_returns : PySem.W.isFn K (.ref f_Ladder_returns) = true)
    (lk_Ladder_returns : K.lookup f_Ladder_returns = some ⟨oc_Ladder_returns, od_Ladder_returns, .func (PySem.W.fnOf "returns" "Ladder.returns" (defArgs st_Ladder_returns) (defBody st_Ladder_returns) (defScope st_Ladder_returns) .none kV_Ladder_returns dc_Ladder_returns pm_Ladder_returns an_Ladder_returns cd_Ladder_returns ct_Ladder_returns), sl_Ladder_returns⟩)
    (co_Ladder_returns : PySem.W.codeIn K cd_Ladder_returns "Ladder.returns" = true)
    (kp_Ladder_returns : PySem.W.keepIn K (.ref f_Ladder_returns) = true)
    (at_wrong_count : PySem.W.nsIn K mainGlobals "wrong_count" = some (some (.ref f_wrong_count)))
    (lk_wrong_count : K.lookup f_wrong_count = some ⟨oc_wrong_count, od_wrong_count, .func (PySem.W.fnOf "wrong_count" "wrong_count" (defArgs st_wrong_count) (defBody st_wrong_count) (defScope st_wrong_count) .none kV_wrong_count dc_wrong_count pm_wrong_count an_wrong_count cd_wrong_count ct_wrong_count), sl_wrong_count⟩)
    (co_wrong_count : PySem.W.codeIn K cd_wrong_count "wrong_count" = true)
    (kp_wrong_count : PySem.W.keepIn K (.ref f_wrong_count) = true)
    (at_Table_init : PySem.W.findIn K (.ref a_Table) "__init__" = some (some (.ref f_Table_init)))
    (fn_Table_init : PySem.W.isFn K (.ref f_Table_init) = true)
    (lk_Table_init : K.lookup f_Table_init = some ⟨oc_Table_init, od_Table_init, .func (PySem.W.fnOf "__init__" "Table.__init__" (defArgs st_Table_init) (defBody st_Table_init) (defScope st_Table_init) .none kV_Table_init dc_Table_init pm_Table_init an_Table_init cd_Table_init ct_Table_init), sl_Table_init⟩)
    (co_Table_init : PySem.W.codeIn K cd_Table_init "Table.__init__" = true)
    (kp_Table_init : PySem.W.keepIn K (.ref f_Table_init) = true)
    (at_Table_ladder : PySem.W.findIn K (.ref a_Table) "ladder" = some (some (.ref f_Table_ladder)))
    (fn_Table_ladder : PySem.W.isFn K (.ref f_Table_ladder) = true)
    (lk_Table_ladder : K.lookup f_Table_ladder = some ⟨oc_Table_ladder, od_Table_ladder, .func (PySem.W.fnOf "ladder" "Table.ladder" (defArgs st_Table_ladder) (defBody st_Table_ladder) (defScope st_Table_ladder) .none kV_Table_ladder dc_Table_ladder pm_Table_ladder an_Table_ladder cd_Table_ladder ct_Table_ladder), sl_Table_ladder⟩)
    (co_Table_ladder : PySem.W.codeIn K cd_Table_ladder "Table.ladder" = true)
    (kp_Table_ladder : PySem.W.keepIn K (.ref f_Table_ladder) = true)
    (at_Table_counts : PySem.W.findIn K (.ref a_Table) "counts" = some (some (.ref f_Table_counts)))
    (fn_Table_counts : PySem.W.isFn K (.ref f_Table_counts) = true)
    (lk_Table_counts : K.lookup f_Table_counts = some ⟨oc_Table_counts, od_Table_counts, .func (PySem.W.fnOf "counts" "Table.counts" (defArgs st_Table_counts) (defBody st_Table_counts) (defScope st_Table_counts) .none kV_Table_counts dc_Table_counts pm_Table_counts an_Table_counts cd_Table_counts ct_Table_counts), sl_Table_counts⟩)
    (co_Table_counts : PySem.W.codeIn K cd_Table_counts "Table.counts" = true)
    (kp_Table_counts : PySem.W.keepIn K (.ref f_Table_counts) = true)
    (at_law_e_named : PySem.W.nsIn K mainGlobals "_law_e_named" = some (some (.ref f_law_e_named)))
    (lk_law_e_named : K.lookup f_law_e_named = some ⟨oc_law_e_named, od_law_e_named, .func (PySem.W.fnOf "_law_e_named" "_law_e_named" (defArgs st_law_e_named) (defBody st_law_e_named) (defScope st_law_e_named) .none kV_law_e_named dc_law_e_named pm_law_e_named an_law_e_named cd_law_e_named ct_law_e_named), sl_law_e_named⟩)
    (co_law_e_named : PySem.W.codeIn K cd_law_e_named "_law_e_named" = true)
    (kp_law_e_named : PySem.W.keepIn K (.ref f_law_e_named) = true)
    (at_law_e_asked : PySem.W.nsIn K mainGlobals "_law_e_asked" = some (some (.ref f_law_e_asked)))
    (lk_law_e_asked : K.lookup f_law_e_asked = some ⟨oc_law_e_asked, od_law_e_asked, .func (PySem.W.fnOf "_law_e_asked" "_law_e_asked" (defArgs st_law_e_asked) (defBody st_law_e_asked) (defScope st_law_e_asked) .none kV_law_e_asked dc_law_e_asked pm_law_e_asked an_law_e_asked cd_law_e_asked ct_law_e_asked), sl_law_e_asked⟩)
    (co_law_e_asked : PySem.W.codeIn K cd_law_e_asked "_law_e_asked" = true)
    (kp_law_e_asked : PySem.W.keepIn K (.ref f_law_e_asked) = true)
    (at_law_e_refused : PySem.W.nsIn K mainGlobals "_law_e_refused" = some (some (.ref f_law_e_refused)))
    (lk_law_e_refused : K.lookup f_law_e_refused = some ⟨oc_law_e_refused, od_law_e_refused, .func (PySem.W.fnOf "_law_e_refused" "_law_e_refused" (defArgs st_law_e_refused) (defBody st_law_e_refused) (defScope st_law_e_refused) .none kV_law_e_refused dc_law_e_refused pm_law_e_refused an_law_e_refused cd_law_e_refused ct_law_e_refused), sl_law_e_refused⟩)
    (co_law_e_refused : PySem.W.codeIn K cd_law_e_refused "_law_e_refused" = true)
    (kp_law_e_refused : PySem.W.keepIn K (.ref f_law_e_refused) = true)
    (at_law_e_falls : PySem.W.nsIn K mainGlobals "_law_e_falls" = some (some (.ref f_law_e_falls)))
    (lk_law_e_falls : K.lookup f_law_e_falls = some ⟨oc_law_e_falls, od_law_e_falls, .func (PySem.W.fnOf "_law_e_falls" "_law_e_falls" (defArgs st_law_e_falls) (defBody st_law_e_falls) (defScope st_law_e_falls) .none kV_law_e_falls dc_law_e_falls pm_law_e_falls an_law_e_falls cd_law_e_falls ct_law_e_falls), sl_law_e_falls⟩)
    (co_law_e_falls : PySem.W.codeIn K cd_law_e_falls "_law_e_falls" = true)
    (kp_law_e_falls : PySem.W.keepIn K (.ref f_law_e_falls) = true)
    (at_law_e_ladder : PySem.W.nsIn K mainGlobals "_law_e_ladder" = some (some (.ref f_law_e_ladder)))
    (lk_law_e_ladder : K.lookup f_law_e_ladder = some ⟨oc_law_e_ladder, od_law_e_ladder, .func (PySem.W.fnOf "_law_e_ladder" "_law_e_ladder" (defArgs st_law_e_ladder) (defBody st_law_e_ladder) (defScope st_law_e_ladder) .none kV_law_e_ladder dc_law_e_ladder pm_law_e_ladder an_law_e_ladder cd_law_e_ladder ct_law_e_ladder), sl_law_e_ladder⟩)
    (co_law_e_ladder : PySem.W.codeIn K cd_law_e_ladder "_law_e_ladder" = true)
    (kp_law_e_ladder : PySem.W.keepIn K (.ref f_law_e_ladder) = true)
    (at_law_stock : PySem.W.nsIn K mainGlobals "_law_stock" = some (some (.ref f_law_stock)))
    (lk_law_stock : K.lookup f_law_stock = some ⟨oc_law_stock, od_law_stock, .func (PySem.W.fnOf "_law_stock" "_law_stock" (defArgs st_law_stock) (defBody st_law_stock) (defScope st_law_stock) .none kV_law_stock dc_law_stock pm_law_stock an_law_stock cd_law_stock ct_law_stock), sl_law_stock⟩)
    (co_law_stock : PySem.W.codeIn K cd_law_stock "_law_stock" = true)
    (kp_law_stock : PySem.W.keepIn K (.ref f_law_stock) = true)
    (at_law_draw : PySem.W.nsIn K mainGlobals "_law_draw" = some (some (.ref f_law_draw)))
    (lk_law_draw : K.lookup f_law_draw = some ⟨oc_law_draw, od_law_draw, .func (PySem.W.fnOf "_law_draw" "_law_draw" (defArgs st_law_draw) (defBody st_law_draw) (defScope st_law_draw) .none kV_law_draw dc_law_draw pm_law_draw an_law_draw cd_law_draw ct_law_draw), sl_law_draw⟩)
    (co_law_draw : PySem.W.codeIn K cd_law_draw "_law_draw" = true)
    (kp_law_draw : PySem.W.keepIn K (.ref f_law_draw) = true)
    (at_law_matches : PySem.W.nsIn K mainGlobals "_law_matches" = some (some (.ref f_law_matches)))
    (lk_law_matches : K.lookup f_law_matches = some ⟨oc_law_matches, od_law_matches, .func (PySem.W.fnOf "_law_matches" "_law_matches" (defArgs st_law_matches) (defBody st_law_matches) (defScope st_law_matches) .none kV_law_matches dc_law_matches pm_law_matches an_law_matches cd_law_matches ct_law_matches), sl_law_matches⟩)
    (co_law_matches : PySem.W.codeIn K cd_law_matches "_law_matches" = true)
    (kp_law_matches : PySem.W.keepIn K (.ref f_law_matches) = true)
    (at_law_k29_step : PySem.W.nsIn K mainGlobals "_law_k29_step" = some (some (.ref f_law_k29_step)))
    (lk_law_k29_step : K.lookup f_law_k29_step = some ⟨oc_law_k29_step, od_law_k29_step, .func (PySem.W.fnOf "_law_k29_step" "_law_k29_step" (defArgs st_law_k29_step) (defBody st_law_k29_step) (defScope st_law_k29_step) .none kV_law_k29_step dc_law_k29_step pm_law_k29_step an_law_k29_step cd_law_k29_step ct_law_k29_step), sl_law_k29_step⟩)
    (co_law_k29_step : PySem.W.codeIn K cd_law_k29_step "_law_k29_step" = true)
    (kp_law_k29_step : PySem.W.keepIn K (.ref f_law_k29_step) = true)
    (at_law_k29_rows : PySem.W.nsIn K mainGlobals "_law_k29_rows" = some (some (.ref f_law_k29_rows)))
    (lk_law_k29_rows : K.lookup f_law_k29_rows = some ⟨oc_law_k29_rows, od_law_k29_rows, .func (PySem.W.fnOf "_law_k29_rows" "_law_k29_rows" (defArgs st_law_k29_rows) (defBody st_law_k29_rows) (defScope st_law_k29_rows) .none kV_law_k29_rows dc_law_k29_rows pm_law_k29_rows an_law_k29_rows cd_law_k29_rows ct_law_k29_rows), sl_law_k29_rows⟩)
    (co_law_k29_rows : PySem.W.codeIn K cd_law_k29_rows "_law_k29_rows" = true)
    (kp_law_k29_rows : PySem.W.keepIn K (.ref f_law_k29_rows) = true)
    (at_law_k29_round : PySem.W.nsIn K mainGlobals "_law_k29_round" = some (some (.ref f_law_k29_round)))
    (lk_law_k29_round : K.lookup f_law_k29_round = some ⟨oc_law_k29_round, od_law_k29_round, .func (PySem.W.fnOf "_law_k29_round" "_law_k29_round" (defArgs st_law_k29_round) (defBody st_law_k29_round) (defScope st_law_k29_round) .none kV_law_k29_round dc_law_k29_round pm_law_k29_round an_law_k29_round cd_law_k29_round ct_law_k29_round), sl_law_k29_round⟩)
    (co_law_k29_round : PySem.W.codeIn K cd_law_k29_round "_law_k29_round" = true)
    (kp_law_k29_round : PySem.W.keepIn K (.ref f_law_k29_round) = true)
    (at_law_k29_named : PySem.W.nsIn K mainGlobals "_law_k29_named" = some (some (.ref f_law_k29_named)))
    (lk_law_k29_named : K.lookup f_law_k29_named = some ⟨oc_law_k29_named, od_law_k29_named, .func (PySem.W.fnOf "_law_k29_named" "_law_k29_named" (defArgs st_law_k29_named) (defBody st_law_k29_named) (defScope st_law_k29_named) .none kV_law_k29_named dc_law_k29_named pm_law_k29_named an_law_k29_named cd_law_k29_named ct_law_k29_named), sl_law_k29_named⟩)
    (co_law_k29_named : PySem.W.codeIn K cd_law_k29_named "_law_k29_named" = true)
    (kp_law_k29_named : PySem.W.keepIn K (.ref f_law_k29_named) = true)
    (at_law_k29_due : PySem.W.nsIn K mainGlobals "_law_k29_due" = some (some (.ref f_law_k29_due)))
    (lk_law_k29_due : K.lookup f_law_k29_due = some ⟨oc_law_k29_due, od_law_k29_due, .func (PySem.W.fnOf "_law_k29_due" "_law_k29_due" (defArgs st_law_k29_due) (defBody st_law_k29_due) (defScope st_law_k29_due) .none kV_law_k29_due dc_law_k29_due pm_law_k29_due an_law_k29_due cd_law_k29_due ct_law_k29_due), sl_law_k29_due⟩)
    (co_law_k29_due : PySem.W.codeIn K cd_law_k29_due "_law_k29_due" = true)
    (kp_law_k29_due : PySem.W.keepIn K (.ref f_law_k29_due) = true)
    (at_law_k29_crowns : PySem.W.nsIn K mainGlobals "_law_k29_crowns" = some (some (.ref f_law_k29_crowns)))
    (lk_law_k29_crowns : K.lookup f_law_k29_crowns = some ⟨oc_law_k29_crowns, od_law_k29_crowns, .func (PySem.W.fnOf "_law_k29_crowns" "_law_k29_crowns" (defArgs st_law_k29_crowns) (defBody st_law_k29_crowns) (defScope st_law_k29_crowns) .none kV_law_k29_crowns dc_law_k29_crowns pm_law_k29_crowns an_law_k29_crowns (.ref c_law_k29_crowns) ct_law_k29_crowns), sl_law_k29_crowns⟩)
    (co_law_k29_crowns : PySem.W.codeIn K (.ref c_law_k29_crowns) "_law_k29_crowns" = true)
    (kp_law_k29_crowns : PySem.W.keepIn K (.ref f_law_k29_crowns) = true)
    (vc_law_k29_crowns : K.lookup c_law_k29_crowns = some ⟨.type "code", vo_law_k29_crowns, .fields vs_law_k29_crowns, vl_law_k29_crowns⟩)
    (v11_law_k29_crowns : (vs_law_k29_crowns[11]? : Option Value) = some (.ref p_law_k29_crowns))
    (hc_law_k29_crowns : PySem.W.codeHdIn K c_law_k29_crowns p_law_k29_crowns = true)
    (nT_law_k29_crowns : K.lookup p_law_k29_crowns = none)
    (tb_law_k29_crowns : h.get? p_law_k29_crowns = some { cls := .none, data := .fields #[] })
    (at_law_k29_refusals : PySem.W.nsIn K mainGlobals "_law_k29_refusals" = some (some (.ref f_law_k29_refusals)))
    (lk_law_k29_refusals : K.lookup f_law_k29_refusals = some ⟨oc_law_k29_refusals, od_law_k29_refusals, .func (PySem.W.fnOf "_law_k29_refusals" "_law_k29_refusals" (defArgs st_law_k29_refusals) (defBody st_law_k29_refusals) (defScope st_law_k29_refusals) .none kV_law_k29_refusals dc_law_k29_refusals pm_law_k29_refusals an_law_k29_refusals (.ref c_law_k29_refusals) ct_law_k29_refusals), sl_law_k29_refusals⟩)
    (co_law_k29_refusals : PySem.W.codeIn K (.ref c_law_k29_refusals) "_law_k29_refusals" = true)
    (kp_law_k29_refusals : PySem.W.keepIn K (.ref f_law_k29_refusals) = true)
    (vc_law_k29_refusals : K.lookup c_law_k29_refusals = some ⟨.type "code", vo_law_k29_refusals, .fields vs_law_k29_refusals, vl_law_k29_refusals⟩)
    (v11_law_k29_refusals : (vs_law_k29_refusals[11]? : Option Value) = some (.ref p_law_k29_refusals))
    (hc_law_k29_refusals : PySem.W.codeHdIn K c_law_k29_refusals p_law_k29_refusals = true)
    (nT_law_k29_refusals : K.lookup p_law_k29_refusals = none)
    (tb_law_k29_refusals : h.get? p_law_k29_refusals = some { cls := .none, data := .fields #[] })
    (at_law : PySem.W.nsIn K mainGlobals "law" = some (some (.ref f_law)))
    (lk_law : K.lookup f_law = some ⟨oc_law, od_law, .func (PySem.W.fnOf "law" "law" (defArgs st_law) (defBody st_law) (defScope st_law) .none kV_law dc_law pm_law an_law cd_law ct_law), sl_law⟩)
    (co_law : PySem.W.codeIn K cd_law "law" = true)
    (kp_law : PySem.W.keepIn K (.ref f_law) = true)
    (ne_law_k29_refusals_law_k29_crowns : p_law_k29_refusals ≠ p_law_k29_crowns) :
    LamX.LawAtS l w K CX0 13 63 "script" mg fa h := by
  have e := hfa.symm.trans (PySem.W.mg_of X G at_law)
  cases e
  have F_TooMany_init := fun_mk (st := st_TooMany_init) lk_TooMany_init co_TooMany_init kp_TooMany_init
  have B_TooMany_init := F_TooMany_init.binds (ps := ["self", "what"]) fun _ _ _ _ _ _ us hl => match us, hl with | [_, _], _ => rfl
  have F_BadLadder_init := fun_mk (st := st_BadLadder_init) lk_BadLadder_init co_BadLadder_init kp_BadLadder_init
  have B_BadLadder_init := F_BadLadder_init.binds (ps := ["self", "rung"]) fun _ _ _ _ _ _ us hl => match us, hl with | [_, _], _ => rfl
  have F_BadTable_init := fun_mk (st := st_BadTable_init) lk_BadTable_init co_BadTable_init kp_BadTable_init
  have B_BadTable_init := F_BadTable_init.binds (ps := ["self", "rung"]) fun _ _ _ _ _ _ us hl => match us, hl with | [_, _], _ => rfl
  have F_BadDemand_init := fun_mk (st := st_BadDemand_init) lk_BadDemand_init co_BadDemand_init kp_BadDemand_init
  have B_BadDemand_init := F_BadDemand_init.binds (ps := ["self", "what"]) fun _ _ _ _ _ _ us hl => match us, hl with | [_, _], _ => rfl
  have F_bound := fun_mk (st := st_bound) lk_bound co_bound kp_bound
  have B_bound := F_bound.binds (ps := ["what", "number"]) fun _ _ _ _ _ _ us hl => match us, hl with | [_, _], _ => rfl
  have F_next_row := fun_mk (st := st_next_row) lk_next_row co_next_row kp_next_row
  have B_next_row := F_next_row.binds (ps := ["table", "known"]) fun _ _ _ _ _ _ us hl => match us, hl with | [_, _], _ => rfl
  have F_grow := fun_mk (st := st_grow) lk_grow co_grow kp_grow
  have B_grow := F_grow.binds (ps := ["table", "rows", "late"]) fun _ _ _ _ _ _ us hl => match us, hl with | [_, _, _], _ => rfl
  have F_round_rows := fun_mk (st := st_round_rows) lk_round_rows co_round_rows kp_round_rows
  have B_round_rows := F_round_rows.binds (ps := ["table", "rounds", "late"]) fun _ _ _ _ _ _ us hl => match us, hl with | [_, _, _], _ => rfl
  have F_crown_round := fun_mk (st := st_crown_round) lk_crown_round co_crown_round kp_crown_round
  have B_crown_round := F_crown_round.binds (ps := ["table", "crowns", "late"]) fun _ _ _ _ _ _ us hl => match us, hl with | [_, _, _], _ => rfl
  have F_grown := fun_mk (st := st_grown) lk_grown co_grown kp_grown
  have B_grown := F_grown.binds (ps := ["lanes", "falls", "first", "charges"]) fun _ _ _ _ _ _ us hl => match us, hl with | [_, _, _, _], _ => rfl
  have F_load_rows := fun_mk (st := st_load_rows) lk_load_rows co_load_rows kp_load_rows
  have B_load_rows := F_load_rows.binds (ps := ["lanes", "falls"]) fun _ _ _ _ _ _ us hl => match us, hl with | [_, _], _ => rfl
  have F_head_row := fun_mk (st := st_head_row) lk_head_row co_head_row kp_head_row
  have B_head_row := F_head_row.binds (ps := ["lanes", "falls"]) fun _ _ _ _ _ _ us hl => match us, hl with | [_, _], _ => rfl
  have F_worth_row := fun_mk (st := st_worth_row) lk_worth_row co_worth_row kp_worth_row
  have B_worth_row := F_worth_row.binds (ps := ["lanes", "falls"]) fun _ _ _ _ _ _ us hl => match us, hl with | [_, _], _ => rfl
  have F_wrong_rung := fun_mk (st := st_wrong_rung) lk_wrong_rung co_wrong_rung kp_wrong_rung
  have B_wrong_rung := F_wrong_rung.binds (ps := ["lanes", "falls"]) fun _ _ _ _ _ _ us hl => match us, hl with | [_, _], _ => rfl
  have F_Ladder_init := fun_mk (st := st_Ladder_init) lk_Ladder_init co_Ladder_init kp_Ladder_init
  have B_Ladder_init := F_Ladder_init.binds (ps := ["self", "lanes", "falls", "returns"]) fun _ _ _ _ _ _ us hl => match us, hl with | [_, _, _, _], _ => rfl
  have F_Ladder_lanes := fun_mk (st := st_Ladder_lanes) lk_Ladder_lanes co_Ladder_lanes kp_Ladder_lanes
  have B_Ladder_lanes := F_Ladder_lanes.binds (ps := ["self"]) fun _ _ _ _ _ _ us hl => match us, hl with | [_], _ => rfl
  have F_Ladder_rungs := fun_mk (st := st_Ladder_rungs) lk_Ladder_rungs co_Ladder_rungs kp_Ladder_rungs
  have B_Ladder_rungs := F_Ladder_rungs.binds (ps := ["self"]) fun _ _ _ _ _ _ us hl => match us, hl with | [_], _ => rfl
  have F_Ladder_falls := fun_mk (st := st_Ladder_falls) lk_Ladder_falls co_Ladder_falls kp_Ladder_falls
  have B_Ladder_falls := F_Ladder_falls.binds (ps := ["self"]) fun _ _ _ _ _ _ us hl => match us, hl with | [_], _ => rfl
  have F_Ladder_returns := fun_mk (st := st_Ladder_returns) lk_Ladder_returns co_Ladder_returns kp_Ladder_returns
  have B_Ladder_returns := F_Ladder_returns.binds (ps := ["self"]) fun _ _ _ _ _ _ us hl => match us, hl with | [_], _ => rfl
  have F_wrong_count := fun_mk (st := st_wrong_count) lk_wrong_count co_wrong_count kp_wrong_count
  have B_wrong_count := F_wrong_count.binds (ps := ["counts", "rungs"]) fun _ _ _ _ _ _ us hl => match us, hl with | [_, _], _ => rfl
  have F_Table_init := fun_mk (st := st_Table_init) lk_Table_init co_Table_init kp_Table_init
  have B_Table_init := F_Table_init.binds (ps := ["self", "ladder", "counts"]) fun _ _ _ _ _ _ us hl => match us, hl with | [_, _, _], _ => rfl
  have F_Table_ladder := fun_mk (st := st_Table_ladder) lk_Table_ladder co_Table_ladder kp_Table_ladder
  have B_Table_ladder := F_Table_ladder.binds (ps := ["self"]) fun _ _ _ _ _ _ us hl => match us, hl with | [_], _ => rfl
  have F_Table_counts := fun_mk (st := st_Table_counts) lk_Table_counts co_Table_counts kp_Table_counts
  have B_Table_counts := F_Table_counts.binds (ps := ["self"]) fun _ _ _ _ _ _ us hl => match us, hl with | [_], _ => rfl
  have F_law_e_named := fun_mk (st := st_law_e_named) lk_law_e_named co_law_e_named kp_law_e_named
  have B_law_e_named := F_law_e_named.binds (ps := ["raised"]) fun _ _ _ _ _ _ us hl => match us, hl with | [_], _ => rfl
  have F_law_e_asked := fun_mk (st := st_law_e_asked) lk_law_e_asked co_law_e_asked kp_law_e_asked
  have B_law_e_asked := F_law_e_asked.binds (ps := ["call"]) fun _ _ _ _ _ _ us hl => match us, hl with | [_], _ => rfl
  have F_law_e_refused := fun_mk (st := st_law_e_refused) lk_law_e_refused co_law_e_refused kp_law_e_refused
  have B_law_e_refused := F_law_e_refused.binds (ps := ["call", "due"]) fun _ _ _ _ _ _ us hl => match us, hl with | [_, _], _ => rfl
  have F_law_e_falls := fun_mk (st := st_law_e_falls) lk_law_e_falls co_law_e_falls kp_law_e_falls
  have B_law_e_falls := F_law_e_falls.binds (ps := ["stock", "rungs"]) fun _ _ _ _ _ _ us hl => match us, hl with | [_, _], _ => rfl
  have F_law_e_ladder := fun_mk (st := st_law_e_ladder) lk_law_e_ladder co_law_e_ladder kp_law_e_ladder
  have B_law_e_ladder := F_law_e_ladder.binds (ps := ["stock", "least", "most", "widest"]) fun _ _ _ _ _ _ us hl => match us, hl with | [_, _, _, _], _ => rfl
  have F_law_stock := fun_mk (st := st_law_stock) lk_law_stock co_law_stock kp_law_stock
  have B_law_stock := F_law_stock.binds (ps := ["script", "at"]) fun _ _ _ _ _ _ us hl => match us, hl with | [_, _], _ => rfl
  have F_law_draw := fun_mk (st := st_law_draw) lk_law_draw co_law_draw kp_law_draw
  have B_law_draw := F_law_draw.binds (ps := ["stock", "many"]) fun _ _ _ _ _ _ us hl => match us, hl with | [_, _], _ => rfl
  have F_law_matches := fun_mk (st := st_law_matches) lk_law_matches co_law_matches kp_law_matches
  have B_law_matches := F_law_matches.binds (ps := ["answer", "due"]) fun _ _ _ _ _ _ us hl => match us, hl with | [_, _], _ => rfl
  have F_law_k29_step := fun_mk (st := st_law_k29_step) lk_law_k29_step co_law_k29_step kp_law_k29_step
  have B_law_k29_step := F_law_k29_step.binds (ps := ["plain", "counts", "known"]) fun _ _ _ _ _ _ us hl => match us, hl with | [_, _, _], _ => rfl
  have F_law_k29_rows := fun_mk (st := st_law_k29_rows) lk_law_k29_rows co_law_k29_rows kp_law_k29_rows
  have B_law_k29_rows := F_law_k29_rows.binds (ps := ["plain", "counts", "rounds", "late"]) fun _ _ _ _ _ _ us hl => match us, hl with | [_, _, _, _], _ => rfl
  have F_law_k29_round := fun_mk (st := st_law_k29_round) lk_law_k29_round co_law_k29_round kp_law_k29_round
  have B_law_k29_round := F_law_k29_round.binds (ps := ["stock", "plain", "players", "number", "late"]) fun _ _ _ _ _ _ us hl => match us, hl with | [_, _, _, _, _], _ => rfl
  have F_law_k29_named := fun_mk (st := st_law_k29_named) lk_law_k29_named co_law_k29_named kp_law_k29_named
  have B_law_k29_named := F_law_k29_named.binds (ps := ["stock", "plain", "counts", "rounds", "late"]) fun _ _ _ _ _ _ us hl => match us, hl with | [_, _, _, _, _], _ => rfl
  have F_law_k29_due := fun_mk (st := st_law_k29_due) lk_law_k29_due co_law_k29_due kp_law_k29_due
  have B_law_k29_due := F_law_k29_due.binds (ps := ["rows", "crowns", "late"]) fun _ _ _ _ _ _ us hl => match us, hl with | [_, _, _], _ => rfl
  have F_law_k29_crowns := fun_mk (st := st_law_k29_crowns) lk_law_k29_crowns co_law_k29_crowns kp_law_k29_crowns
  have B_law_k29_crowns := F_law_k29_crowns.binds (ps := ["stock", "plain", "table", "counts", "late"]) fun _ _ _ _ _ _ us hl => match us, hl with | [_, _, _, _, _], _ => rfl
  have F_law_k29_refusals := fun_mk (st := st_law_k29_refusals) lk_law_k29_refusals co_law_k29_refusals kp_law_k29_refusals
  have B_law_k29_refusals := F_law_k29_refusals.binds (ps := ["table"]) fun _ _ _ _ _ _ us hl => match us, hl with | [_], _ => rfl
  have F_law := fun_mk (st := st_law) lk_law co_law kp_law
  have B_law := F_law.binds (ps := ["script"]) fun _ _ _ _ _ _ us hl => match us, hl with | [_], _ => rfl
  have T : Txt K w mg { a_Ladder := a_Ladder, a_Table := a_Table, a_LIMITS := a_LIMITS, a_TOLD := a_TOLD, a_TooMany := a_TooMany, a_BadLadder := a_BadLadder, a_BadTable := a_BadTable, a_BadDemand := a_BadDemand, a_WinsError := a_WinsError, a_BadText := a_BadText, a_BadSeason := a_BadSeason, a_BadCode := a_BadCode, a_BadEvent := a_BadEvent, a_BadFoe := a_BadFoe, a_BadPaper := a_BadPaper, a_BadDisk := a_BadDisk, a_BadDeed := a_BadDeed, c_law_k29_crowns := c_law_k29_crowns, p_law_k29_crowns := p_law_k29_crowns, c_law_k29_refusals := c_law_k29_refusals, p_law_k29_refusals := p_law_k29_refusals } := {
    b_ValueError := PySem.W.mg_none_of X G b_ValueError
    b_abs := PySem.W.mg_none_of X G b_abs
    b_bool := PySem.W.mg_none_of X G b_bool
    b_enumerate := PySem.W.mg_none_of X G b_enumerate
    b_int := PySem.W.mg_none_of X G b_int
    b_isinstance := PySem.W.mg_none_of X G b_isinstance
    b_len := PySem.W.mg_none_of X G b_len
    b_list := PySem.W.mg_none_of X G b_list
    b_max := PySem.W.mg_none_of X G b_max
    b_range := PySem.W.mg_none_of X G b_range
    b_reversed := PySem.W.mg_none_of X G b_reversed
    b_str := PySem.W.mg_none_of X G b_str
    b_sum := PySem.W.mg_none_of X G b_sum
    b_tuple := PySem.W.mg_none_of X G b_tuple
    c_LIMITS := PySem.W.mg_of X G c_LIMITS
    k_LIMITS_lines := ⟨_, _, _, l_LIMITS, kl_LIMITS, v_LIMITS_lines, ⟨_, rfl⟩⟩
    k_LIMITS_words := ⟨_, _, _, l_LIMITS, kl_LIMITS, v_LIMITS_words, ⟨_, rfl⟩⟩
    k_LIMITS_number := ⟨_, _, _, l_LIMITS, kl_LIMITS, v_LIMITS_number, ⟨_, rfl⟩⟩
    k_LIMITS_depth := ⟨_, _, _, l_LIMITS, kl_LIMITS, v_LIMITS_depth, ⟨_, rfl⟩⟩
    k_LIMITS_blocks := ⟨_, _, _, l_LIMITS, kl_LIMITS, v_LIMITS_blocks, ⟨_, rfl⟩⟩
    k_LIMITS_lanes := ⟨_, _, _, l_LIMITS, kl_LIMITS, v_LIMITS_lanes, ⟨_, rfl⟩⟩
    k_LIMITS_rungs := ⟨_, _, _, l_LIMITS, kl_LIMITS, v_LIMITS_rungs, ⟨_, rfl⟩⟩
    k_LIMITS_ways := ⟨_, _, _, l_LIMITS, kl_LIMITS, v_LIMITS_ways, ⟨_, rfl⟩⟩
    k_LIMITS_promises := ⟨_, _, _, l_LIMITS, kl_LIMITS, v_LIMITS_promises, ⟨_, rfl⟩⟩
    k_LIMITS_variables := ⟨_, _, _, l_LIMITS, kl_LIMITS, v_LIMITS_variables, ⟨_, rfl⟩⟩
    k_LIMITS_states := ⟨_, _, _, l_LIMITS, kl_LIMITS, v_LIMITS_states, ⟨_, rfl⟩⟩
    k_LIMITS_rows := ⟨_, _, _, l_LIMITS, kl_LIMITS, v_LIMITS_rows, ⟨_, rfl⟩⟩
    k_LIMITS_events := ⟨_, _, _, l_LIMITS, kl_LIMITS, v_LIMITS_events, ⟨_, rfl⟩⟩
    k_LIMITS_meetings := ⟨_, _, _, l_LIMITS, kl_LIMITS, v_LIMITS_meetings, ⟨_, rfl⟩⟩
    k_LIMITS_housemeetings := ⟨_, _, _, l_LIMITS, kl_LIMITS, v_LIMITS_housemeetings, ⟨_, rfl⟩⟩
    k_LIMITS_rounds := ⟨_, _, _, l_LIMITS, kl_LIMITS, v_LIMITS_rounds, ⟨_, rfl⟩⟩
    k_LIMITS_late := ⟨_, _, _, l_LIMITS, kl_LIMITS, v_LIMITS_late, ⟨_, rfl⟩⟩
    k_LIMITS_plan := ⟨_, _, _, l_LIMITS, kl_LIMITS, v_LIMITS_plan, ⟨_, rfl⟩⟩
    k_LIMITS_nodes := ⟨_, _, _, l_LIMITS, kl_LIMITS, v_LIMITS_nodes, ⟨_, rfl⟩⟩
    k_LIMITS_players := ⟨_, _, _, l_LIMITS, kl_LIMITS, v_LIMITS_players, ⟨_, rfl⟩⟩
    k_LIMITS_log := ⟨_, _, _, l_LIMITS, kl_LIMITS, v_LIMITS_log, ⟨_, rfl⟩⟩
    k_LIMITS_signs := ⟨_, _, _, l_LIMITS, kl_LIMITS, v_LIMITS_signs, ⟨_, rfl⟩⟩
    c_OUT := ⟨_, PySem.W.mg_of X G c_OUT⟩
    c_TOLD := PySem.W.mg_of X G c_TOLD
    k_TOLD_blocks := ⟨_, _, _, l_TOLD, kl_TOLD, v_TOLD_blocks, ⟨_, rfl⟩⟩
    k_TOLD_states := ⟨_, _, _, l_TOLD, kl_TOLD, v_TOLD_states, ⟨_, rfl⟩⟩
    k_TOLD_housemeetings := ⟨_, _, _, l_TOLD, kl_TOLD, v_TOLD_housemeetings, ⟨_, rfl⟩⟩
    m_TOLD_lanes := ⟨_, _, l_TOLD, kl_TOLD, sm_TOLD, mi_TOLD_lanes⟩
    m_TOLD_rungs := ⟨_, _, l_TOLD, kl_TOLD, sm_TOLD, mi_TOLD_rungs⟩
    m_TOLD_rounds := ⟨_, _, l_TOLD, kl_TOLD, sm_TOLD, mi_TOLD_rounds⟩
    m_TOLD_late := ⟨_, _, l_TOLD, kl_TOLD, sm_TOLD, mi_TOLD_late⟩
    l_Ladder := ⟨pg_Ladder, hd_Ladder, po_Ladder, sa_Ladder⟩
    n_Ladder_lanes_number := n_Ladder_lanes_number
    n_Ladder_falls_list := n_Ladder_falls_list
    n_Ladder_returns_kept := n_Ladder_returns_kept
    n_Ladder_loads_table := n_Ladder_loads_table
    n_Ladder_heads_list := n_Ladder_heads_list
    n_Ladder_worths_list := n_Ladder_worths_list
    l_Table := ⟨pg_Table, hd_Table, po_Table, sa_Table⟩
    n_Table_ladder_kept := n_Table_ladder_kept
    n_Table_counts_list := n_Table_counts_list
    o_TooMany := ⟨⟨_, _, _, _, _, _, _, _, _, _, _, _, _, _, _, xl_TooMany, rv_TooMany⟩, sa_TooMany, ec_TooMany, ty_TooMany, kc_TooMany⟩
    x_TooMany := ⟨ga_TooMany, gg_TooMany, ec_TooMany, hd_TooMany⟩
    g_TooMany := PySem.W.mg_of X G g_TooMany
    m_TooMany := exm_own ec_TooMany ic_TooMany ty_TooMany ss_TooMany
    n_TooMany_what := n_TooMany_what
    o_BadLadder := ⟨⟨_, _, _, _, _, _, _, _, _, _, _, _, _, _, _, xl_BadLadder, rv_BadLadder⟩, sa_BadLadder, ec_BadLadder, ty_BadLadder, kc_BadLadder⟩
    x_BadLadder := ⟨ga_BadLadder, gg_BadLadder, ec_BadLadder, hd_BadLadder⟩
    g_BadLadder := PySem.W.mg_of X G g_BadLadder
    m_BadLadder := exm_own ec_BadLadder ic_BadLadder ty_BadLadder ss_BadLadder
    n_BadLadder_rung := n_BadLadder_rung
    o_BadTable := ⟨⟨_, _, _, _, _, _, _, _, _, _, _, _, _, _, _, xl_BadTable, rv_BadTable⟩, sa_BadTable, ec_BadTable, ty_BadTable, kc_BadTable⟩
    x_BadTable := ⟨ga_BadTable, gg_BadTable, ec_BadTable, hd_BadTable⟩
    g_BadTable := PySem.W.mg_of X G g_BadTable
    m_BadTable := exm_own ec_BadTable ic_BadTable ty_BadTable ss_BadTable
    n_BadTable_rung := n_BadTable_rung
    o_BadDemand := ⟨⟨_, _, _, _, _, _, _, _, _, _, _, _, _, _, _, xl_BadDemand, rv_BadDemand⟩, sa_BadDemand, ec_BadDemand, ty_BadDemand, kc_BadDemand⟩
    x_BadDemand := ⟨ga_BadDemand, gg_BadDemand, ec_BadDemand, hd_BadDemand⟩
    g_BadDemand := PySem.W.mg_of X G g_BadDemand
    m_BadDemand := exm_own ec_BadDemand ic_BadDemand ty_BadDemand ss_BadDemand
    n_BadDemand_what := n_BadDemand_what
    g_WinsError := PySem.W.mg_of X G g_WinsError
    wg_WinsError := wg_WinsError
    wr_WinsError := wr_WinsError
    wv_WinsError := wv_WinsError
    g_BadText := PySem.W.mg_of X G g_BadText
    g_BadSeason := PySem.W.mg_of X G g_BadSeason
    g_BadCode := PySem.W.mg_of X G g_BadCode
    g_BadEvent := PySem.W.mg_of X G g_BadEvent
    g_BadFoe := PySem.W.mg_of X G g_BadFoe
    g_BadPaper := PySem.W.mg_of X G g_BadPaper
    g_BadDisk := PySem.W.mg_of X G g_BadDisk
    g_BadDeed := PySem.W.mg_of X G g_BadDeed
    xi_TooMany := ⟨ic_TooMany, ga_TooMany, gg_TooMany, ec_TooMany, xc_TooMany, xg_TooMany, xt_TooMany, xm_TooMany⟩
    ki_TooMany_TooMany := ki_TooMany_TooMany
    ki_TooMany_BadLadder := ki_TooMany_BadLadder
    ki_TooMany_BadTable := ki_TooMany_BadTable
    ki_TooMany_BadDemand := ki_TooMany_BadDemand
    ki_TooMany_ValueError := ki_TooMany_ValueError
    ka_TooMany_0 := ka_TooMany_0
    mm_TooMany_WinsError := mm_TooMany_WinsError
    xi_BadLadder := ⟨ic_BadLadder, ga_BadLadder, gg_BadLadder, ec_BadLadder, xc_BadLadder, xg_BadLadder, xt_BadLadder, xm_BadLadder⟩
    ki_BadLadder_TooMany := ki_BadLadder_TooMany
    ki_BadLadder_BadLadder := ki_BadLadder_BadLadder
    ki_BadLadder_BadTable := ki_BadLadder_BadTable
    ki_BadLadder_BadDemand := ki_BadLadder_BadDemand
    ki_BadLadder_ValueError := ki_BadLadder_ValueError
    ka_BadLadder_0 := ka_BadLadder_0
    mm_BadLadder_WinsError := mm_BadLadder_WinsError
    xi_BadTable := ⟨ic_BadTable, ga_BadTable, gg_BadTable, ec_BadTable, xc_BadTable, xg_BadTable, xt_BadTable, xm_BadTable⟩
    ki_BadTable_TooMany := ki_BadTable_TooMany
    ki_BadTable_BadLadder := ki_BadTable_BadLadder
    ki_BadTable_BadTable := ki_BadTable_BadTable
    ki_BadTable_BadDemand := ki_BadTable_BadDemand
    ki_BadTable_ValueError := ki_BadTable_ValueError
    ka_BadTable_0 := ka_BadTable_0
    mm_BadTable_WinsError := mm_BadTable_WinsError
    xi_BadDemand := ⟨ic_BadDemand, ga_BadDemand, gg_BadDemand, ec_BadDemand, xc_BadDemand, xg_BadDemand, xt_BadDemand, xm_BadDemand⟩
    ki_BadDemand_TooMany := ki_BadDemand_TooMany
    ki_BadDemand_BadLadder := ki_BadDemand_BadLadder
    ki_BadDemand_BadTable := ki_BadDemand_BadTable
    ki_BadDemand_BadDemand := ki_BadDemand_BadDemand
    ki_BadDemand_ValueError := ki_BadDemand_ValueError
    ka_BadDemand_0 := ka_BadDemand_0
    mm_BadDemand_WinsError := mm_BadDemand_WinsError
    f_TooMany_init := ⟨_, _, F_TooMany_init, at_TooMany_init, tf_TooMany_init, B_TooMany_init⟩
    f_BadLadder_init := ⟨_, _, F_BadLadder_init, at_BadLadder_init, tf_BadLadder_init, B_BadLadder_init⟩
    f_BadTable_init := ⟨_, _, F_BadTable_init, at_BadTable_init, tf_BadTable_init, B_BadTable_init⟩
    f_BadDemand_init := ⟨_, _, F_BadDemand_init, at_BadDemand_init, tf_BadDemand_init, B_BadDemand_init⟩
    f_bound := ⟨_, _, F_bound, PySem.W.mg_of X G at_bound, B_bound⟩
    f_next_row := ⟨_, _, F_next_row, PySem.W.mg_of X G at_next_row, B_next_row⟩
    f_grow := ⟨_, _, F_grow, PySem.W.mg_of X G at_grow, B_grow⟩
    f_round_rows := ⟨_, _, F_round_rows, PySem.W.mg_of X G at_round_rows, B_round_rows⟩
    f_crown_round := ⟨_, _, F_crown_round, PySem.W.mg_of X G at_crown_round, B_crown_round⟩
    f_grown := ⟨_, _, F_grown, PySem.W.mg_of X G at_grown, B_grown⟩
    f_load_rows := ⟨_, _, F_load_rows, PySem.W.mg_of X G at_load_rows, B_load_rows⟩
    f_head_row := ⟨_, _, F_head_row, PySem.W.mg_of X G at_head_row, B_head_row⟩
    f_worth_row := ⟨_, _, F_worth_row, PySem.W.mg_of X G at_worth_row, B_worth_row⟩
    f_wrong_rung := ⟨_, _, F_wrong_rung, PySem.W.mg_of X G at_wrong_rung, B_wrong_rung⟩
    f_Ladder_init := ⟨_, _, F_Ladder_init, ⟨mk_Ladder, at_Ladder_init, fn_Ladder_init, kc_Ladder⟩, PySem.W.mg_of X G g_Ladder, B_Ladder_init⟩
    f_Ladder_lanes := ⟨_, _, F_Ladder_lanes, ⟨at_Ladder_lanes, fn_Ladder_lanes, kp_Ladder_lanes⟩, B_Ladder_lanes⟩
    f_Ladder_rungs := ⟨_, _, F_Ladder_rungs, ⟨at_Ladder_rungs, fn_Ladder_rungs, kp_Ladder_rungs⟩, B_Ladder_rungs⟩
    f_Ladder_falls := ⟨_, _, F_Ladder_falls, ⟨at_Ladder_falls, fn_Ladder_falls, kp_Ladder_falls⟩, B_Ladder_falls⟩
    f_Ladder_returns := ⟨_, _, F_Ladder_returns, ⟨at_Ladder_returns, fn_Ladder_returns, kp_Ladder_returns⟩, B_Ladder_returns⟩
    f_wrong_count := ⟨_, _, F_wrong_count, PySem.W.mg_of X G at_wrong_count, B_wrong_count⟩
    f_Table_init := ⟨_, _, F_Table_init, ⟨mk_Table, at_Table_init, fn_Table_init, kc_Table⟩, PySem.W.mg_of X G g_Table, B_Table_init⟩
    f_Table_ladder := ⟨_, _, F_Table_ladder, ⟨at_Table_ladder, fn_Table_ladder, kp_Table_ladder⟩, B_Table_ladder⟩
    f_Table_counts := ⟨_, _, F_Table_counts, ⟨at_Table_counts, fn_Table_counts, kp_Table_counts⟩, B_Table_counts⟩
    f_law_e_named := ⟨_, _, F_law_e_named, PySem.W.mg_of X G at_law_e_named, B_law_e_named⟩
    f_law_e_asked := ⟨_, _, F_law_e_asked, PySem.W.mg_of X G at_law_e_asked, B_law_e_asked⟩
    f_law_e_refused := ⟨_, _, F_law_e_refused, PySem.W.mg_of X G at_law_e_refused, B_law_e_refused⟩
    f_law_e_falls := ⟨_, _, F_law_e_falls, PySem.W.mg_of X G at_law_e_falls, B_law_e_falls⟩
    f_law_e_ladder := ⟨_, _, F_law_e_ladder, PySem.W.mg_of X G at_law_e_ladder, B_law_e_ladder⟩
    f_law_stock := ⟨_, _, F_law_stock, PySem.W.mg_of X G at_law_stock, B_law_stock⟩
    f_law_draw := ⟨_, _, F_law_draw, PySem.W.mg_of X G at_law_draw, B_law_draw⟩
    f_law_matches := ⟨_, _, F_law_matches, PySem.W.mg_of X G at_law_matches, B_law_matches⟩
    f_law_k29_step := ⟨_, _, F_law_k29_step, PySem.W.mg_of X G at_law_k29_step, B_law_k29_step⟩
    f_law_k29_rows := ⟨_, _, F_law_k29_rows, PySem.W.mg_of X G at_law_k29_rows, B_law_k29_rows⟩
    f_law_k29_round := ⟨_, _, F_law_k29_round, PySem.W.mg_of X G at_law_k29_round, B_law_k29_round⟩
    f_law_k29_named := ⟨_, _, F_law_k29_named, PySem.W.mg_of X G at_law_k29_named, B_law_k29_named⟩
    f_law_k29_due := ⟨_, _, F_law_k29_due, PySem.W.mg_of X G at_law_k29_due, B_law_k29_due⟩
    f_law_k29_crowns := ⟨_, _, F_law_k29_crowns, rfl, PySem.W.mg_of X G at_law_k29_crowns, B_law_k29_crowns⟩
    f_law_k29_refusals := ⟨_, _, F_law_k29_refusals, rfl, PySem.W.mg_of X G at_law_k29_refusals, B_law_k29_refusals⟩
    f_law := ⟨_, _, F_law, PySem.W.mg_of X G at_law, B_law⟩
  }
  refine ⟨PySem.W.fnOf "law" "law" (defArgs st_law) (defBody st_law) (defScope st_law) .none kV_law dc_law pm_law an_law cd_law ct_law, [(c_law_k29_crowns, p_law_k29_crowns), (c_law_k29_refusals, p_law_k29_refusals)], sp_law K { a_Ladder := a_Ladder, a_Table := a_Table, a_LIMITS := a_LIMITS, a_TOLD := a_TOLD, a_TooMany := a_TooMany, a_BadLadder := a_BadLadder, a_BadTable := a_BadTable, a_BadDemand := a_BadDemand, a_WinsError := a_WinsError, a_BadText := a_BadText, a_BadSeason := a_BadSeason, a_BadCode := a_BadCode, a_BadEvent := a_BadEvent, a_BadFoe := a_BadFoe, a_BadPaper := a_BadPaper, a_BadDisk := a_BadDisk, a_BadDeed := a_BadDeed, c_law_k29_crowns := c_law_k29_crowns, p_law_k29_crowns := p_law_k29_crowns, c_law_k29_refusals := c_law_k29_refusals, p_law_k29_refusals := p_law_k29_refusals }, List.forall_mem_cons.mpr ⟨tb_law_k29_crowns, List.forall_mem_cons.mpr ⟨tb_law_k29_refusals, fun _ h => nomatch h⟩⟩, List.forall_mem_cons.mpr ⟨nT_law_k29_crowns, List.forall_mem_cons.mpr ⟨nT_law_k29_refusals, fun _ h => nomatch h⟩⟩, List.forall_mem_cons.mpr ⟨PySem.W.codeHd_of_K X hc_law_k29_crowns, List.forall_mem_cons.mpr ⟨PySem.W.codeHd_of_K X hc_law_k29_refusals, fun _ h => nomatch h⟩⟩, fun s v => .of_eq rfl, fun H a ns hl _ hH hS => ⟨a, ns, rfl, hS, hl, ?_, fun _ => rfl⟩, fun base _ _ TB => ok_law T ?_ F_law⟩
  · exact List.forall_mem_cons.mpr ⟨LamX.TabS.nil (hH (c_law_k29_crowns, p_law_k29_crowns) (.head _)), List.forall_mem_cons.mpr ⟨LamX.TabS.nil (hH (c_law_k29_refusals, p_law_k29_refusals) (.tail _ (.head _))), fun _ h => nomatch h⟩⟩
  · exact ⟨TB (c_law_k29_crowns, p_law_k29_crowns) (.head _), TB (c_law_k29_refusals, p_law_k29_refusals) (.tail _ (.head _)), ne_law_k29_refusals_law_k29_crowns⟩
theorem walk {l : PySem.W.OpenLaw} {q : Program} {loose : List Str} {XP : (Str → Option Value) → Heap → Prop} {YP : World → Heap → Prop} {d : DefRec} {K : Params → PySem.W.Frag} (hn : l.most = some 63) (hdf : d.params.defaults = [])
    (hY : ∀ (w : World) (h : Heap), YP w h → (K w.params).In h)
    (F : ∀ (w : World) (mg : Str → Option Value) (fa : Addr) (h : Heap), YP w h → (K w.params).In h → h.Ns mainGlobals mg → mg d.name = some (.ref fa) → LamX.LawAtS l w (K w.params) CX0 13 63 "script" mg fa h) :
    PySem.W.WalkO q loose XP YP l.row.toRowW d [] (fun f vs => PySem.call f vs) :=
  LamX.walk_ofTs (n := 63) (k := 13) (x := "script") (CX := fun _ => CX0) hn (by decide) hdf ⟨rfl, by decide, by decide⟩ hY F fun _ _ _ _ _ z => z
end L29
open PySem PySem.W PyProof.Rows in
set_option maxRecDepth 100000 in
set_option maxHeartbeats 0 in
theorem PySem.Challenge.cw_whoeverwins_k29_rounds_with_late_news_holds : PySem.Challenge.rw_whoeverwins_k29_rounds_with_late_news.Holds := by
  w_on; o_law; k_head; (case hw => w_witness2)
  k_fill
  refine L29.walk (l := PySem.Challenge.rw_whoeverwins_k29_rounds_with_late_news) rfl rfl (fun w h Y => PySem.W.km_in_of Y) ?F
  case F =>
    intro w mg fa h Y KX G hmg
    refine' L29.all_mk KX G hmg ?g_Ladder ?pg_Ladder ?hd_Ladder ?po_Ladder ?sa_Ladder ?mk_Ladder ?kc_Ladder ?g_Table ?pg_Table ?hd_Table ?po_Table ?sa_Table ?mk_Table ?kc_Table ?b_ValueError ?b_abs ?b_bool ?b_enumerate ?b_int ?b_isinstance ?b_len ?b_list ?b_max ?b_range ?b_reversed ?b_str ?b_sum ?b_tuple ?c_LIMITS ?l_LIMITS ?kl_LIMITS ?v_LIMITS_lines ?v_LIMITS_words ?v_LIMITS_number ?v_LIMITS_depth ?v_LIMITS_blocks ?v_LIMITS_lanes ?v_LIMITS_rungs ?v_LIMITS_ways ?v_LIMITS_promises ?v_LIMITS_variables ?v_LIMITS_states ?v_LIMITS_rows ?v_LIMITS_events ?v_LIMITS_meetings ?v_LIMITS_housemeetings ?v_LIMITS_rounds ?v_LIMITS_late ?v_LIMITS_plan ?v_LIMITS_nodes ?v_LIMITS_players ?v_LIMITS_log ?v_LIMITS_signs ?c_OUT ?c_TOLD ?l_TOLD ?kl_TOLD ?v_TOLD_blocks ?v_TOLD_states ?v_TOLD_housemeetings ?sm_TOLD ?mi_TOLD_lanes ?mi_TOLD_rungs ?mi_TOLD_rounds ?mi_TOLD_late ?n_Ladder_lanes_number ?n_Ladder_falls_list ?n_Ladder_returns_kept ?n_Ladder_loads_table ?n_Ladder_heads_list ?n_Ladder_worths_list ?n_Table_ladder_kept ?n_Table_counts_list ?g_TooMany ?xl_TooMany ?rv_TooMany ?sa_TooMany ?ec_TooMany ?ty_TooMany ?kc_TooMany ?ga_TooMany ?gg_TooMany ?hd_TooMany ?ic_TooMany ?ss_TooMany ?n_TooMany_what ?g_BadLadder ?xl_BadLadder ?rv_BadLadder ?sa_BadLadder ?ec_BadLadder ?ty_BadLadder ?kc_BadLadder ?ga_BadLadder ?gg_BadLadder ?hd_BadLadder ?ic_BadLadder ?ss_BadLadder ?n_BadLadder_rung ?g_BadTable ?xl_BadTable ?rv_BadTable ?sa_BadTable ?ec_BadTable ?ty_BadTable ?kc_BadTable ?ga_BadTable ?gg_BadTable ?hd_BadTable ?ic_BadTable ?ss_BadTable ?n_BadTable_rung ?g_BadDemand ?xl_BadDemand ?rv_BadDemand ?sa_BadDemand ?ec_BadDemand ?ty_BadDemand ?kc_BadDemand ?ga_BadDemand ?gg_BadDemand ?hd_BadDemand ?ic_BadDemand ?ss_BadDemand ?n_BadDemand_what ?g_WinsError ?wg_WinsError ?wr_WinsError ?wv_WinsError ?g_BadText ?g_BadSeason ?g_BadCode ?g_BadEvent ?g_BadFoe ?g_BadPaper ?g_BadDisk ?g_BadDeed ?xc_TooMany ?xg_TooMany ?xt_TooMany ?xm_TooMany ?ki_TooMany_TooMany ?ki_TooMany_BadLadder ?ki_TooMany_BadTable ?ki_TooMany_BadDemand ?ki_TooMany_ValueError ?ka_TooMany_0 ?mm_TooMany_WinsError ?xc_BadLadder ?xg_BadLadder ?xt_BadLadder ?xm_BadLadder ?ki_BadLadder_TooMany ?ki_BadLadder_BadLadder ?ki_BadLadder_BadTable ?ki_BadLadder_BadDemand ?ki_BadLadder_ValueError ?ka_BadLadder_0 ?mm_BadLadder_WinsError ?xc_BadTable ?xg_BadTable ?xt_BadTable ?xm_BadTable ?ki_BadTable_TooMany ?ki_BadTable_BadLadder ?ki_BadTable_BadTable ?ki_BadTable_BadDemand ?ki_BadTable_ValueError ?ka_BadTable_0 ?mm_BadTable_WinsError ?xc_BadDemand ?xg_BadDemand ?xt_BadDemand ?xm_BadDemand ?ki_BadDemand_TooMany ?ki_BadDemand_BadLadder ?ki_BadDemand_BadTable ?ki_BadDemand_BadDemand ?ki_BadDemand_ValueError ?ka_BadDemand_0 ?mm_BadDemand_WinsError ?at_TooMany_init ?tf_TooMany_init ?lk_TooMany_init ?co_TooMany_init ?kp_TooMany_init ?at_BadLadder_init ?tf_BadLadder_init ?lk_BadLadder_init ?co_BadLadder_init ?kp_BadLadder_init ?at_BadTable_init ?tf_BadTable_init ?lk_BadTable_init ?co_BadTable_init ?kp_BadTable_init ?at_BadDemand_init ?tf_BadDemand_init ?lk_BadDemand_init ?co_BadDemand_init ?kp_BadDemand_init ?at_bound ?lk_bound ?co_bound ?kp_bound ?at_next_row ?lk_next_row ?co_next_row ?kp_next_row ?at_grow ?lk_grow ?co_grow ?kp_grow ?at_round_rows ?lk_round_rows ?co_round_rows ?kp_round_rows ?at_crown_round ?lk_crown_round ?co_crown_round ?kp_crown_round ?at_grown ?lk_grown ?co_grown ?kp_grown ?at_load_rows ?lk_load_rows ?co_load_rows ?kp_load_rows ?at_head_row ?lk_head_row ?co_head_row ?kp_head_row ?at_worth_row ?lk_worth_row ?co_worth_row ?kp_worth_row ?at_wrong_rung ?lk_wrong_rung ?co_wrong_rung ?kp_wrong_rung ?at_Ladder_init ?fn_Ladder_init ?lk_Ladder_init ?co_Ladder_init ?kp_Ladder_init ?at_Ladder_lanes ?fn_Ladder_lanes ?lk_Ladder_lanes ?co_Ladder_lanes ?kp_Ladder_lanes ?at_Ladder_rungs ?fn_Ladder_rungs ?lk_Ladder_rungs ?co_Ladder_rungs ?kp_Ladder_rungs ?at_Ladder_falls ?fn_Ladder_falls ?lk_Ladder_falls ?co_Ladder_falls ?kp_Ladder_falls ?at_Ladder_returns ?fn_Ladder_returns ?lk_Ladder_returns ?co_Ladder_returns ?kp_Ladder_returns ?at_wrong_count ?lk_wrong_count ?co_wrong_count ?kp_wrong_count ?at_Table_init ?fn_Table_init ?lk_Table_init ?co_Table_init ?kp_Table_init ?at_Table_ladder ?fn_Table_ladder ?lk_Table_ladder ?co_Table_ladder ?kp_Table_ladder ?at_Table_counts ?fn_Table_counts ?lk_Table_counts ?co_Table_counts ?kp_Table_counts ?at_law_e_named ?lk_law_e_named ?co_law_e_named ?kp_law_e_named ?at_law_e_asked ?lk_law_e_asked ?co_law_e_asked ?kp_law_e_asked ?at_law_e_refused ?lk_law_e_refused ?co_law_e_refused ?kp_law_e_refused ?at_law_e_falls ?lk_law_e_falls ?co_law_e_falls ?kp_law_e_falls ?at_law_e_ladder ?lk_law_e_ladder ?co_law_e_ladder ?kp_law_e_ladder ?at_law_stock ?lk_law_stock ?co_law_stock ?kp_law_stock ?at_law_draw ?lk_law_draw ?co_law_draw ?kp_law_draw ?at_law_matches ?lk_law_matches ?co_law_matches ?kp_law_matches ?at_law_k29_step ?lk_law_k29_step ?co_law_k29_step ?kp_law_k29_step ?at_law_k29_rows ?lk_law_k29_rows ?co_law_k29_rows ?kp_law_k29_rows ?at_law_k29_round ?lk_law_k29_round ?co_law_k29_round ?kp_law_k29_round ?at_law_k29_named ?lk_law_k29_named ?co_law_k29_named ?kp_law_k29_named ?at_law_k29_due ?lk_law_k29_due ?co_law_k29_due ?kp_law_k29_due ?at_law_k29_crowns ?lk_law_k29_crowns ?co_law_k29_crowns ?kp_law_k29_crowns ?vc_law_k29_crowns ?v11_law_k29_crowns ?hc_law_k29_crowns ?nT_law_k29_crowns ?tb_law_k29_crowns ?at_law_k29_refusals ?lk_law_k29_refusals ?co_law_k29_refusals ?kp_law_k29_refusals ?vc_law_k29_refusals ?v11_law_k29_refusals ?hc_law_k29_refusals ?nT_law_k29_refusals ?tb_law_k29_refusals ?at_law ?lk_law ?co_law ?kp_law ?ne_law_k29_refusals_law_k29_crowns
    (case g_Ladder => k_is)
    (case pg_Ladder => k_is)
    (case hd_Ladder => k_is)
    (case po_Ladder => k_is)
    (case sa_Ladder => k_is)
    (case mk_Ladder => k_is)
    (case kc_Ladder => k_is)
    (case g_Table => k_is)
    (case pg_Table => k_is)
    (case hd_Table => k_is)
    (case po_Table => k_is)
    (case sa_Table => k_is)
    (case mk_Table => k_is)
    (case kc_Table => k_is)
    (case b_ValueError => k_is)
    (case b_abs => k_is)
    (case b_bool => k_is)
    (case b_enumerate => k_is)
    (case b_int => k_is)
    (case b_isinstance => k_is)
    (case b_len => k_is)
    (case b_list => k_is)
    (case b_max => k_is)
    (case b_range => k_is)
    (case b_reversed => k_is)
    (case b_str => k_is)
    (case b_sum => k_is)
    (case b_tuple => k_is)
    (case c_LIMITS => k_is)
    (case l_LIMITS => k_is)
    (case kl_LIMITS => exact ⟨⟨_, _, rfl, rfl⟩, ⟨⟨_, _, rfl, rfl⟩, ⟨⟨_, _, rfl, rfl⟩, ⟨⟨_, _, rfl, rfl⟩, ⟨⟨_, _, rfl, rfl⟩, ⟨⟨_, _, rfl, rfl⟩, ⟨⟨_, _, rfl, rfl⟩, ⟨⟨_, _, rfl, rfl⟩, ⟨⟨_, _, rfl, rfl⟩, ⟨⟨_, _, rfl, rfl⟩, ⟨⟨_, _, rfl, rfl⟩, ⟨⟨_, _, rfl, rfl⟩, ⟨⟨_, _, rfl, rfl⟩, ⟨⟨_, _, rfl, rfl⟩, ⟨⟨_, _, rfl, rfl⟩, ⟨⟨_, _, rfl, rfl⟩, ⟨⟨_, _, rfl, rfl⟩, ⟨⟨_, _, rfl, rfl⟩, ⟨⟨_, _, rfl, rfl⟩, ⟨⟨_, _, rfl, rfl⟩, ⟨⟨_, _, rfl, rfl⟩, ⟨⟨_, _, rfl, rfl⟩, trivial⟩⟩⟩⟩⟩⟩⟩⟩⟩⟩⟩⟩⟩⟩⟩⟩⟩⟩⟩⟩⟩⟩)
    (case v_LIMITS_lines => k_is)
    (case v_LIMITS_words => k_is)
    (case v_LIMITS_number => k_is)
    (case v_LIMITS_depth => k_is)
    (case v_LIMITS_blocks => k_is)
    (case v_LIMITS_lanes => k_is)
    (case v_LIMITS_rungs => k_is)
    (case v_LIMITS_ways => k_is)
    (case v_LIMITS_promises => k_is)
    (case v_LIMITS_variables => k_is)
    (case v_LIMITS_states => k_is)
    (case v_LIMITS_rows => k_is)
    (case v_LIMITS_events => k_is)
    (case v_LIMITS_meetings => k_is)
    (case v_LIMITS_housemeetings => k_is)
    (case v_LIMITS_rounds => k_is)
    (case v_LIMITS_late => k_is)
    (case v_LIMITS_plan => k_is)
    (case v_LIMITS_nodes => k_is)
    (case v_LIMITS_players => k_is)
    (case v_LIMITS_log => k_is)
    (case v_LIMITS_signs => k_is)
    (case c_OUT => k_is)
    (case c_TOLD => k_is)
    (case l_TOLD => k_is)
    (case kl_TOLD => exact ⟨⟨_, _, rfl, rfl⟩, ⟨⟨_, _, rfl, rfl⟩, ⟨⟨_, _, rfl, rfl⟩, trivial⟩⟩⟩)
    (case v_TOLD_blocks => k_is)
    (case v_TOLD_states => k_is)
    (case v_TOLD_housemeetings => k_is)
    (case sm_TOLD => first | rfl | decide +kernel | k_is)
    (case mi_TOLD_lanes => k_is)
    (case mi_TOLD_rungs => k_is)
    (case mi_TOLD_rounds => k_is)
    (case mi_TOLD_late => k_is)
    (case n_Ladder_lanes_number => k_is)
    (case n_Ladder_falls_list => k_is)
    (case n_Ladder_returns_kept => k_is)
    (case n_Ladder_loads_table => k_is)
    (case n_Ladder_heads_list => k_is)
    (case n_Ladder_worths_list => k_is)
    (case n_Table_ladder_kept => k_is)
    (case n_Table_counts_list => k_is)
    (case g_TooMany => k_is)
    (case xl_TooMany => k_is)
    (case rv_TooMany => first | rfl | decide +kernel | k_is)
    (case sa_TooMany => k_is)
    (case ec_TooMany => k_is)
    (case ty_TooMany => k_is)
    (case kc_TooMany => k_is)
    (case ga_TooMany => k_is)
    (case gg_TooMany => k_is)
    (case hd_TooMany => k_is)
    (case ic_TooMany => k_is)
    (case ss_TooMany => first | rfl | k_is)
    (case n_TooMany_what => k_is)
    (case g_BadLadder => k_is)
    (case xl_BadLadder => k_is)
    (case rv_BadLadder => first | rfl | decide +kernel | k_is)
    (case sa_BadLadder => k_is)
    (case ec_BadLadder => k_is)
    (case ty_BadLadder => k_is)
    (case kc_BadLadder => k_is)
    (case ga_BadLadder => k_is)
    (case gg_BadLadder => k_is)
    (case hd_BadLadder => k_is)
    (case ic_BadLadder => k_is)
    (case ss_BadLadder => first | rfl | k_is)
    (case n_BadLadder_rung => k_is)
    (case g_BadTable => k_is)
    (case xl_BadTable => k_is)
    (case rv_BadTable => first | rfl | decide +kernel | k_is)
    (case sa_BadTable => k_is)
    (case ec_BadTable => k_is)
    (case ty_BadTable => k_is)
    (case kc_BadTable => k_is)
    (case ga_BadTable => k_is)
    (case gg_BadTable => k_is)
    (case hd_BadTable => k_is)
    (case ic_BadTable => k_is)
    (case ss_BadTable => first | rfl | k_is)
    (case n_BadTable_rung => k_is)
    (case g_BadDemand => k_is)
    (case xl_BadDemand => k_is)
    (case rv_BadDemand => first | rfl | decide +kernel | k_is)
    (case sa_BadDemand => k_is)
    (case ec_BadDemand => k_is)
    (case ty_BadDemand => k_is)
    (case kc_BadDemand => k_is)
    (case ga_BadDemand => k_is)
    (case gg_BadDemand => k_is)
    (case hd_BadDemand => k_is)
    (case ic_BadDemand => k_is)
    (case ss_BadDemand => first | rfl | k_is)
    (case n_BadDemand_what => k_is)
    (case g_WinsError => k_is)
    (case wg_WinsError => k_is)
    (case wr_WinsError => k_is)
    (case wv_WinsError => k_is)
    (case g_BadText => k_is)
    (case g_BadSeason => k_is)
    (case g_BadCode => k_is)
    (case g_BadEvent => k_is)
    (case g_BadFoe => k_is)
    (case g_BadPaper => k_is)
    (case g_BadDisk => k_is)
    (case g_BadDeed => k_is)
    (case xc_TooMany => k_is)
    (case xg_TooMany => k_is)
    (case xt_TooMany => first | k_is | kernel_rfl | rfl)
    (case xm_TooMany => first | k_is | kernel_rfl | rfl)
    (case ki_TooMany_TooMany => first | k_is | kernel_rfl | rfl)
    (case ki_TooMany_BadLadder => first | k_is | kernel_rfl | rfl)
    (case ki_TooMany_BadTable => first | k_is | kernel_rfl | rfl)
    (case ki_TooMany_BadDemand => first | k_is | kernel_rfl | rfl)
    (case ki_TooMany_ValueError => first | k_is | kernel_rfl | rfl)
    (case ka_TooMany_0 => first | k_is | kernel_rfl | rfl)
    (case mm_TooMany_WinsError => first | k_is | kernel_rfl | rfl)
    (case xc_BadLadder => k_is)
    (case xg_BadLadder => k_is)
    (case xt_BadLadder => first | k_is | kernel_rfl | rfl)
    (case xm_BadLadder => first | k_is | kernel_rfl | rfl)
    (case ki_BadLadder_TooMany => first | k_is | kernel_rfl | rfl)
    (case ki_BadLadder_BadLadder => first | k_is | kernel_rfl | rfl)
    (case ki_BadLadder_BadTable => first | k_is | kernel_rfl | rfl)
    (case ki_BadLadder_BadDemand => first | k_is | kernel_rfl | rfl)
    (case ki_BadLadder_ValueError => first | k_is | kernel_rfl | rfl)
    (case ka_BadLadder_0 => first | k_is | kernel_rfl | rfl)
    (case mm_BadLadder_WinsError => first | k_is | kernel_rfl | rfl)
    (case xc_BadTable => k_is)
    (case xg_BadTable => k_is)
    (case xt_BadTable => first | k_is | kernel_rfl | rfl)
    (case xm_BadTable => first | k_is | kernel_rfl | rfl)
    (case ki_BadTable_TooMany => first | k_is | kernel_rfl | rfl)
    (case ki_BadTable_BadLadder => first | k_is | kernel_rfl | rfl)
    (case ki_BadTable_BadTable => first | k_is | kernel_rfl | rfl)
    (case ki_BadTable_BadDemand => first | k_is | kernel_rfl | rfl)
    (case ki_BadTable_ValueError => first | k_is | kernel_rfl | rfl)
    (case ka_BadTable_0 => first | k_is | kernel_rfl | rfl)
    (case mm_BadTable_WinsError => first | k_is | kernel_rfl | rfl)
    (case xc_BadDemand => k_is)
    (case xg_BadDemand => k_is)
    (case xt_BadDemand => first | k_is | kernel_rfl | rfl)
    (case xm_BadDemand => first | k_is | kernel_rfl | rfl)
    (case ki_BadDemand_TooMany => first | k_is | kernel_rfl | rfl)
    (case ki_BadDemand_BadLadder => first | k_is | kernel_rfl | rfl)
    (case ki_BadDemand_BadTable => first | k_is | kernel_rfl | rfl)
    (case ki_BadDemand_BadDemand => first | k_is | kernel_rfl | rfl)
    (case ki_BadDemand_ValueError => first | k_is | kernel_rfl | rfl)
    (case ka_BadDemand_0 => first | k_is | kernel_rfl | rfl)
    (case mm_BadDemand_WinsError => first | k_is | kernel_rfl | rfl)
    (case at_TooMany_init => k_is)
    (case tf_TooMany_init => k_is)
    (case lk_TooMany_init => k_is)
    (case co_TooMany_init => k_is)
    (case kp_TooMany_init => k_is)
    (case at_BadLadder_init => k_is)
    (case tf_BadLadder_init => k_is)
    (case lk_BadLadder_init => k_is)
    (case co_BadLadder_init => k_is)
    (case kp_BadLadder_init => k_is)
    (case at_BadTable_init => k_is)
    (case tf_BadTable_init => k_is)
    (case lk_BadTable_init => k_is)
    (case co_BadTable_init => k_is)
    (case kp_BadTable_init => k_is)
    (case at_BadDemand_init => k_is)
    (case tf_BadDemand_init => k_is)
    (case lk_BadDemand_init => k_is)
    (case co_BadDemand_init => k_is)
    (case kp_BadDemand_init => k_is)
    (case at_bound => k_is)
    (case lk_bound => k_is)
    (case co_bound => k_is)
    (case kp_bound => k_is)
    (case at_next_row => k_is)
    (case lk_next_row => k_is)
    (case co_next_row => k_is)
    (case kp_next_row => k_is)
    (case at_grow => k_is)
    (case lk_grow => k_is)
    (case co_grow => k_is)
    (case kp_grow => k_is)
    (case at_round_rows => k_is)
    (case lk_round_rows => k_is)
    (case co_round_rows => k_is)
    (case kp_round_rows => k_is)
    (case at_crown_round => k_is)
    (case lk_crown_round => k_is)
    (case co_crown_round => k_is)
    (case kp_crown_round => k_is)
    (case at_grown => k_is)
    (case lk_grown => k_is)
    (case co_grown => k_is)
    (case kp_grown => k_is)
    (case at_load_rows => k_is)
    (case lk_load_rows => k_is)
    (case co_load_rows => k_is)
    (case kp_load_rows => k_is)
    (case at_head_row => k_is)
    (case lk_head_row => k_is)
    (case co_head_row => k_is)
    (case kp_head_row => k_is)
    (case at_worth_row => k_is)
    (case lk_worth_row => k_is)
    (case co_worth_row => k_is)
    (case kp_worth_row => k_is)
    (case at_wrong_rung => k_is)
    (case lk_wrong_rung => k_is)
    (case co_wrong_rung => k_is)
    (case kp_wrong_rung => k_is)
    (case at_Ladder_init => k_is)
    (case fn_Ladder_init => k_is)
    (case lk_Ladder_init => k_is)
    (case co_Ladder_init => k_is)
    (case kp_Ladder_init => k_is)
    (case at_Ladder_lanes => k_is)
    (case fn_Ladder_lanes => k_is)
    (case lk_Ladder_lanes => k_is)
    (case co_Ladder_lanes => k_is)
    (case kp_Ladder_lanes => k_is)
    (case at_Ladder_rungs => k_is)
    (case fn_Ladder_rungs => k_is)
    (case lk_Ladder_rungs => k_is)
    (case co_Ladder_rungs => k_is)
    (case kp_Ladder_rungs => k_is)
    (case at_Ladder_falls => k_is)
    (case fn_Ladder_falls => k_is)
    (case lk_Ladder_falls => k_is)
    (case co_Ladder_falls => k_is)
    (case kp_Ladder_falls => k_is)
    (case at_Ladder_returns => k_is)
    (case fn_Ladder_returns => k_is)
    (case lk_Ladder_returns => k_is)
    (case co_Ladder_returns => k_is)
    (case kp_Ladder_returns => k_is)
    (case at_wrong_count => k_is)
    (case lk_wrong_count => k_is)
    (case co_wrong_count => k_is)
    (case kp_wrong_count => k_is)
    (case at_Table_init => k_is)
    (case fn_Table_init => k_is)
    (case lk_Table_init => k_is)
    (case co_Table_init => k_is)
    (case kp_Table_init => k_is)
    (case at_Table_ladder => k_is)
    (case fn_Table_ladder => k_is)
    (case lk_Table_ladder => k_is)
    (case co_Table_ladder => k_is)
    (case kp_Table_ladder => k_is)
    (case at_Table_counts => k_is)
    (case fn_Table_counts => k_is)
    (case lk_Table_counts => k_is)
    (case co_Table_counts => k_is)
    (case kp_Table_counts => k_is)
    (case at_law_e_named => k_is)
    (case lk_law_e_named => k_is)
    (case co_law_e_named => k_is)
    (case kp_law_e_named => k_is)
    (case at_law_e_asked => k_is)
    (case lk_law_e_asked => k_is)
    (case co_law_e_asked => k_is)
    (case kp_law_e_asked => k_is)
    (case at_law_e_refused => k_is)
    (case lk_law_e_refused => k_is)
    (case co_law_e_refused => k_is)
    (case kp_law_e_refused => k_is)
    (case at_law_e_falls => k_is)
    (case lk_law_e_falls => k_is)
    (case co_law_e_falls => k_is)
    (case kp_law_e_falls => k_is)
    (case at_law_e_ladder => k_is)
    (case lk_law_e_ladder => k_is)
    (case co_law_e_ladder => k_is)
    (case kp_law_e_ladder => k_is)
    (case at_law_stock => k_is)
    (case lk_law_stock => k_is)
    (case co_law_stock => k_is)
    (case kp_law_stock => k_is)
    (case at_law_draw => k_is)
    (case lk_law_draw => k_is)
    (case co_law_draw => k_is)
    (case kp_law_draw => k_is)
    (case at_law_matches => k_is)
    (case lk_law_matches => k_is)
    (case co_law_matches => k_is)
    (case kp_law_matches => k_is)
    (case at_law_k29_step => k_is)
    (case lk_law_k29_step => k_is)
    (case co_law_k29_step => k_is)
    (case kp_law_k29_step => k_is)
    (case at_law_k29_rows => k_is)
    (case lk_law_k29_rows => k_is)
    (case co_law_k29_rows => k_is)
    (case kp_law_k29_rows => k_is)
    (case at_law_k29_round => k_is)
    (case lk_law_k29_round => k_is)
    (case co_law_k29_round => k_is)
    (case kp_law_k29_round => k_is)
    (case at_law_k29_named => k_is)
    (case lk_law_k29_named => k_is)
    (case co_law_k29_named => k_is)
    (case kp_law_k29_named => k_is)
    (case at_law_k29_due => k_is)
    (case lk_law_k29_due => k_is)
    (case co_law_k29_due => k_is)
    (case kp_law_k29_due => k_is)
    (case at_law_k29_crowns => k_is)
    (case lk_law_k29_crowns => k_is)
    (case co_law_k29_crowns => k_is)
    (case kp_law_k29_crowns => k_is)
    (case vc_law_k29_crowns => k_is)
    (case v11_law_k29_crowns => rfl)
    (case hc_law_k29_crowns => first | k_is | kernel_rfl | rfl)
    (case nT_law_k29_crowns => first | k_is | kernel_rfl | rfl)
    (case tb_law_k29_crowns => exact PySem.W.km_tabs_of Y _ (by k_mem))
    (case at_law_k29_refusals => k_is)
    (case lk_law_k29_refusals => k_is)
    (case co_law_k29_refusals => k_is)
    (case kp_law_k29_refusals => k_is)
    (case vc_law_k29_refusals => k_is)
    (case v11_law_k29_refusals => rfl)
    (case hc_law_k29_refusals => first | k_is | kernel_rfl | rfl)
    (case nT_law_k29_refusals => first | k_is | kernel_rfl | rfl)
    (case tb_law_k29_refusals => exact PySem.W.km_tabs_of Y _ (by k_mem))
    (case at_law => k_is)
    (case lk_law => k_is)
    (case co_law => k_is)
    (case kp_law => k_is)
    (case ne_law_k29_refusals_law_k29_crowns => decide)
#print axioms PySem.Challenge.cw_whoeverwins_k29_rounds_with_late_news_holds

