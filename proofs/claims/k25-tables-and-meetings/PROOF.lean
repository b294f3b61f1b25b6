import PyProof.Rows.All
import Wide.All
import OpenK.AllK
import Wide.FinOn
import HandS.ForMost
import HandS.ForExc
import HandS.Wide
import HandS.StrMore
import HandS.StrSplit
import HandS.IsInst
import HandS.WrittenGet
import HandS.Walk
import HandS.Codes
import HandS.ExcInit
import HandS.Exc
import HandS.ExcOwn
import HandS.ExcField
import HandS.WordsExc
import HandS.NoneIn
import HandS.RevRange
import HandS.Zip
import HandS.HotCalls
import HandS.ExcInitHot
import HandS.Lambda
import HandS.EndTab
import KE.KExcIs
import KE.KNestM
import HandS.Conv
import HandS.TupLe
import HandS.SetFor
import PySem.Challenge.RW_whoeverwins_k25_tables_and_what_a_meetin
set_option Elab.async false
set_option linter.all false
set_option maxRecDepth 100000
set_option maxHeartbeats 4000000
set_option Elab.async false
set_option linter.all false
set_option maxRecDepth 100000
set_option maxHeartbeats 4000000
namespace Rl
open PySem PySem.Spec PyProof.Rows L2

section
variable {X : Cx}
/-- xs[i] of a list, for an augmented store -/
theorem get_list : PGet X (rIxL X.K) := by
  intro pins s σ H x y v u Q I rx ry h
  obtain ⟨p, xs, i, z, rfl, rfl, hq, he, q⟩ := h
  cases rx
  obtain ⟨t, rfl⟩ := ry
  obtain ⟨its, r, pl, hz⟩ := I.list hq
  obtain ⟨j, h1, h2, h3, h4, h5⟩ := atI_get he
  obtain ⟨w, ew, rw'⟩ := r.get h2
  have hl := r.length
  have hn := line63
  have fin : EP X pins σ Q w s := ⟨z, H, I, rw', q⟩
  by_cases h0 : 0 ≤ i
  · have hj : i.toNat = j := by
      rw [seqIndex_of h0 h5] at h1
      exact Option.some.inj h1
    exact wpAny_getItem_list pl.isList h0 (by omega) (by rw [hj]; simpa using ew) fin
  · have hj : (i + (its.toArray.size : Int)).toNat = j := by
      rw [seqIndex_neg (by omega) h4] at h1
      rw [List.size_toArray, ← hl]
      exact Option.some.inj h1
    exact wpAny_getItem_list_neg pl.isList (by omega) (by rw [List.size_toArray] <;> omega) (by omega) (by rw [hj]; simpa using ew) fin
end

/-! enumerate of a text -/
def ItS (x : Str) : It :=
  ⟨fun i _ => i < x.cps.size, fun i H v H' => ∃ T c, v = .ref T ∧ H T = none ∧ H' = upd H T (.tup [.int (i : Nat), .str ⟨#[c]⟩]) ∧ x.cps[i]? = some c, fun i _ => x.cps.size ≤ i⟩
theorem drawsS {P : Program} {w : World} {A : Around} (hh : A.handled = none) (it : Addr) (x : Str) (t : Tok) :
    PySem.Draws P w A it [it] x.cps.size (fun i v => ∃ c u, x.cps[i]? = some c ∧ v = .str ⟨#[c]⟩ u) (fun i h => h.IsStrIter it (strIterType x) x t i) := by
  unfold strIterType
  cases x.cps.all (· < 128)
  · exact Draws.strWide hh it x t
  · exact Draws.strAscii hh it x t
theorem turn_enumS {P : Program} {w : World} {K : PySem.W.Frag} {elts : List Expr} {kk : Nat} {tpos : Pos} (x : Str) (t : Tok) (e it : Addr) :
    Turn P w K (.Tuple elts kk tpos) (ItS x) [e, it] e (fun i h => (∃ old, IsEnum h e it ((i : Nat) : Int) old) ∧ h.IsStrIter it (strIterType x) x t i ∧ e ≠ it ∧ i ≤ x.cps.size) where
  mem := by simp
  obj := fun i h st b hb => by
    obtain ⟨⟨old, he⟩, ⟨o, ho, hc, hd⟩, _, _⟩ := st
    have e' : b = e ∨ b = it := by simpa using hb
    rcases e' with z | z
    · rw [z]; exact ⟨_, he, fun v q => nomatch q⟩
    · rw [z]; exact ⟨o, ho, fun v q => by rw [hd] at q; cases q⟩
  keep := fun i h h' st k => let ⟨⟨old, he⟩, hi, hne⟩ := st; ⟨⟨old, k e (by simp) _ he⟩, let ⟨o, ho, r⟩ := hi; ⟨o, k it (by simp) o ho, r⟩, hne⟩
  item := by
    intro X hP hw hK hc i pins s σ H E I hf st hg
    subst hP hw hK
    obtain ⟨⟨old, he⟩, hit, hne, hle⟩ := st
    have hel : e < s.heap.objs.size := Heap.lt_size he
    have hil : it < s.heap.objs.size := by obtain ⟨_, q, _⟩ := hit; exact Heap.lt_size q
    have D := drawsS (P := X.prog) (w := X.w) (A := X.A.in1) (I.ok.hd hc) it x t
    refine wpAny_pyNext_enum_itemD D he hit hg hne (by simpa using hne) fun y h' tk hP ho hit' hT hsz hk => ?_
    obtain ⟨c, u, hcx, rfl⟩ := hP
    refine ⟨_, rfl, wpAny_letOwnedTupleGo_enum (s := { s with heap := h', toks := tk + 1 }) ho fun h'' he' sb => ?_⟩
    have hT2 : h''.get? s.heap.objs.size = some { cls := .type "tuple", data := .seq #[.int i tk, .str ⟨#[c]⟩ u] } := (sb.2 _ (Nat.ne_of_gt hel)).trans hT
    have new : ObjOk X.prog X.w (upd H s.heap.objs.size (.tup [.int (i : Nat), .str ⟨#[c]⟩])) h'' s.heap.objs.size (.tup [.int (i : Nat), .str ⟨#[c]⟩]) :=
      ⟨by show 2 ≤ sizeLine; decide, [.int i tk, .str ⟨#[c]⟩ u], .cons ⟨_, rfl⟩ (.cons ⟨_, rfl⟩ .nil), ⟨_, hT2, rfl, _, rfl⟩⟩
    have I1 : Inv X pins σ (upd H s.heap.objs.size (.tup [.int (i : Nat), .str ⟨#[c]⟩])) { s with heap := h'', toks := tk + 1 } :=
      I.turnedNew (ch := [e, it]) (fun b ob hb q => (sb.2 b (fun z => hb (by simp [z]))).trans (hk b ob (fun z => hb (by simp [z])) (fun z => hb (by simp [z])) q)) hf (Nat.le_refl _) new
    refine ⟨.ref s.heap.objs.size, _, I1, rfl, ⟨_, c, rfl, I.hok.fresh (Nat.le_refl _), rfl, hcx⟩, ⟨⟨.str ⟨#[c]⟩ u, ?_⟩, ?_, hne, hg⟩, fun b hb => ?_⟩
    · have e1 : ((i + 1 : Nat) : Int) = (i : Int) + 1 := by omega
      rw [e1]; exact he'
    · obtain ⟨o, ho', r⟩ := hit'
      exact ⟨o, (sb.2 it (Ne.symm hne)).trans ho', r⟩
    · have hb' : b < s.heap.objs.size := by
        have e' : b = e ∨ b = it := by simpa using hb
        rcases e' with z | z
        · rw [z]; exact hel
        · rw [z]; exact hil
      rw [upd_ne (Nat.ne_of_lt hb')]
      exact (hf b hb).1
  done := by
    intro X hP hw hK hc i pins s σ H E I hf st hg
    subst hP hw hK
    obtain ⟨⟨old, he⟩, hit, hne, hle⟩ := st
    obtain ⟨f0, f1, f2, f3, f4, f5⟩ := hf it (by simp)
    have D := drawsS (P := X.prog) (w := X.w) (A := X.A.in1) (I.ok.hd hc) it x t
    have hge : x.cps.size ≤ i := hg
    have e1 : i = x.cps.size := Nat.le_antisymm hle hge
    subst e1
    exact wpAny_pyNext_enum_endD D he hit fun h' eb => ⟨rfl, I.turned (t' := s.toks) (fun b o hb q => eb b o hb q) f0 f1 f3 f4 f5⟩
  self := fun A i s Q E st h => let ⟨⟨_, he⟩, _⟩ := st; wpAny_pyIter_enum he h
def iEnumS (ta : TA) : TI := fun σ H R => ta σ H fun vs H1 => ∃ x, vs = [.str x] ∧ R (ItS x) H1
theorem pi_enumS {X : Cx} {e : Expr} {ta : TA} {p pos tpos : Pos} {elts : List Expr} {kk : Nat} (hg : Gl X "enumerate") (hm : X.mg "enumerate" = none) (ha : PA X [e] ta) (hs : starEach [e] X.env = [(false, eval e X.env)] := by rfl) :
    PI X (.Tuple elts kk tpos) (.Call (.Name "enumerate" p) [e] [] pos) (iEnumS ta) := by
  refine ⟨fun pins s σ H R I h => ?_⟩
  refine Call_ (ld_blt I hg hm boot_enumerate (PyProof.Rows.callWith_type1 (thn (ha.run pos pins s σ H _ I h) fun us s1 ⟨vs, H1, I1, r1, q1⟩ => ?_) hs rfl))
  obtain ⟨x, ex, q⟩ := q1
  subst ex
  cases r1 with
  | cons r rr =>
    cases rr
    obtain ⟨t, rfl⟩ := r
    refine call_enumerate_str fun h' he hit hsz hk => wpAny_pyIter_enum he ?_
    have I2 : Inv X pins σ H1 { s1 with heap := h' } := I1.kept (t' := s1.toks) hk
    refine ⟨s1.heap.objs.size + 1, [s1.heap.objs.size + 1, s1.heap.objs.size], _, _, H1, rfl, I2, turn_enumS x t (s1.heap.objs.size + 1) s1.heap.objs.size, ⟨⟨.none, he⟩, hit, Nat.succ_ne_self _, Nat.zero_le _⟩, fun b hb => ?_, q⟩
    have e' : b = s1.heap.objs.size + 1 ∨ b = s1.heap.objs.size := by simpa using hb
    have hle : s1.heap.objs.size ≤ b := by
      rcases e' with z | z
      · rw [z]; exact Nat.le_add_right _ _
      · rw [z]; exact Nat.le_refl _
    exact I1.fpOk hle (I1.hok.fresh hle)
end Rl

set_option Elab.async false
set_option linter.all false
set_option maxRecDepth 100000
set_option maxHeartbeats 4000000
namespace Eg
open PySem PySem.Spec PyProof.Rows L2 Rl

/-! operators by values, every kind that the texts use -/
def uAdd (K : PySem.W.Frag) : R2 := fun x y H Q => rI0 (fun i j => .int (i + j)) x y H Q ∨ (∃ i j, x = .str i ∧ y = .str j ∧ i.length + j.length ≤ sizeLine ∧ Q (.str (i ++ j)) H) ∨ rCat x y H Q ∨ rCatT K x y H Q
def uMul : R2 := rI (fun i j => CMul i j ∨ CMulW i j) fun i j => .int (i * j)
def uDiv : R2 := rI (fun i j => CDiv i j ∨ CDivW i j) fun i j => .int (i / j)
def uEq (K : PySem.W.Frag) : R2 := fun x y H Q => rEq x y H Q ∨ rEqD K x y H Q
def uNe (K : PySem.W.Frag) : R2 := fun x y H Q => rNe x y H Q ∨ rNeD K x y H Q
def uIn (K : PySem.W.Frag) : R2 := fun x y H Q => (∃ (c : Nat) (z : Str), x = .str ⟨#[c]⟩ ∧ y = .str z ∧ Q (.bl (decide (c ∈ z.cps.toList))) H) ∨ rIn K false x y H Q
def uNotIn (K : PySem.W.Frag) : R2 := fun x y H Q => (∃ (c : Nat) (z : Str), x = .str ⟨#[c]⟩ ∧ y = .str z ∧ Q (.bl (!decide (c ∈ z.cps.toList))) H) ∨ rIn K true x y H Q
def uLen (K : PySem.W.Frag) : List V → Hp → VK → Prop := fun xs H Q => ∃ x n, xs = [x] ∧ LenV K x H n ∧ Q (.int n) H
section
variable {X : Cx}
theorem op_uAdd : OpR X (binaryOp .Add) (uAdd X.K) := op_add.or (op_add_str.or (op_cat.or op_catT))
theorem op_uMul : OpR X (binaryOp .Mult) uMul := by
  intro pins s σ H x y v u Q I rx ry h
  obtain ⟨i, j, e1, e2, hc, q⟩ := h
  rcases hc with hc | hc
  · exact op_mul pins s σ H x y v u Q I rx ry ⟨i, j, e1, e2, hc, q⟩
  · exact op_mulW pins s σ H x y v u Q I rx ry ⟨i, j, e1, e2, hc, q⟩
theorem op_uDiv : OpR X (binaryOp .FloorDiv) uDiv := by
  intro pins s σ H x y v u Q I rx ry h
  obtain ⟨i, j, e1, e2, hc, q⟩ := h
  rcases hc with hc | hc
  · exact op_fdiv pins s σ H x y v u Q I rx ry ⟨i, j, e1, e2, hc, q⟩
  · exact op_fdivW pins s σ H x y v u Q I rx ry ⟨i, j, e1, e2, hc, q⟩
theorem op_uEq (hu : X.A.units + 64 < cLine) : OpR X (compareOp .Eq) (uEq X.K) := op_eq.or (op_eqD hu)
theorem op_uNe (hu : X.A.units + 64 < cLine) : OpR X (compareOp .NotEq) (uNe X.K) := op_ne.or (op_neD hu)
theorem op_uIn : OpR X (compareOp .In) (uIn X.K) := op_in_sign.or op_in_seq
theorem op_uNotIn : OpR X (compareOp .NotIn) (uNotIn X.K) := op_notIn_sign.or op_notIn_seq
theorem call_uLen : CallR X (.builtin "len") (uLen X.K) := call_len
def uInt : List V → Hp → VK → Prop := fun xs H Q => ((∃ i, xs = [.int i] ∧ Q (.int i) H) ∨ ∃ k, xs = [.bl k] ∧ Q (.int (if k then 1 else 0)) H) ∨ ∃ a n, xs = [.str a] ∧ PySem.intText? a = some n ∧ a.length ≤ 640 ∧ Q (.int n) H
theorem call_uInt : CallR X (.type "int") uInt := call_int1.or call_int_str
def uSl (K : PySem.W.Frag) : V → Option Int → Option Int → Hp → VK → Prop := fun x lo hi H Q => rSlL K x lo hi H Q ∨ rSlT K x lo hi H Q ∨ rSlS x lo hi H Q
theorem sl_u : SlR X (uSl X.K) := sl_list.or (sl_tup.or sl_str)
def uTru (K : PySem.W.Frag) (t : TE) : TT := fun σ H Q => t σ H fun x H1 => ∃ k, TruV K x H1 k ∧ Q k H1
end

/-! a def of the text, called by its name; a method -/
structure Dfn (P : Program) (w : World) (K : PySem.W.Frag) (mg : Str → Option Value) (base : Heap) (k : Nat) (x : Str) (ps : List Str) (sp : Sp) : Prop where
  ex : ∃ (f : Addr) (fd : FuncData), FnOk P w K mg base CX0 k f fd ps sp ∧ mg x = some (.ref f) ∧ PySem.W.keepIn K (.ref f) = true ∧ Binds K fd ps []
structure Mth (P : Program) (w : World) (K : PySem.W.Frag) (mg : Str → Option Value) (base : Heap) (k : Nat) (C : Addr) (x : Str) (ps : List Str) (sp : Sp) : Prop where
  ex : ∃ (f : Addr) (fd : FuncData), FnOk P w K mg base CX0 k f fd ps sp ∧ Meth K C x f ∧ Binds K fd ps []
  cl : Cls K C
structure Ini (P : Program) (w : World) (K : PySem.W.Frag) (mg : Str → Option Value) (base : Heap) (k : Nat) (x : Str) (C : Addr) (ps : List Str) (sp : Sp) : Prop where
  ex : ∃ (f : Addr) (fd : FuncData), FnOk P w K mg base CX0 k f fd ps sp ∧ Mk K C f ∧ mg x = some (.ref C) ∧ Binds K fd ps []
section
variable {X : Cx} {k : Nat} {x : Str} {ps : List Str} {sp : Sp} {p pos : Pos} {e : Expr} {es : List Expr} {t : TA} {C : Addr}
theorem pe_dfn (D : Dfn X.prog X.w X.K X.mg X.base k x ps sp) (hr : Room k X.A) (hg : Gl X x) (ha : PA X (e :: es) t)
    (hdb : (x == ("__debug__" : Str)) = false := by decide) (he : starEach (e :: es) X.env = (false, eval e X.env) :: starEach es X.env := by rfl) (hpl : (backTo pos (starEach es X.env)).any (·.1) = false := by rfl) :
    PE X (.Call (.Name x p) (e :: es) [] pos) (tCall sp [] E0 t) := by
  obtain ⟨f, fd, F, hm, hk, hb⟩ := D.ex
  exact pe_call F hr hg hm hk hb .nil pass0 ha hdb he hpl
theorem pe_dfn0 (D : Dfn X.prog X.w X.K X.mg X.base k x ps sp) (hr : Room k X.A) (hg : Gl X x)
    (hdb : (x == ("__debug__" : Str)) = false := by decide) :
    PE X (.Call (.Name x p) [] [] pos) (tCall sp [] E0 tNil) := by
  obtain ⟨f, fd, F, hm, hk, hb⟩ := D.ex
  exact pe_call0 F hr hg hm hk hb .nil pass0 hdb
variable {o : Expr} {apos : Pos} {m : Str} {ta : TE}
theorem pe_mth (D : Mth X.prog X.w X.K X.mg X.base k C m ps sp) (hr : Room k X.A) {pl : Sem Bool} (he : PE X o ta) (ha : PA X (e :: es) t)
    (hst : starEach (e :: es) X.env = (false, eval e X.env) :: starEach es X.env := by rfl) (hpl : (backTo pos (starEach es X.env)).any (·.1) = false := by rfl)
    (ht : eval (.Call (.Attribute o m apos) (e :: es) [] pos) X.env = (do
      let ov ← eval o X.env
      standAt apos.atName
      let (f, first) ← holding [ov] (getMethod ov m pl)
      callWith pos f first (backTo pos (starEach (e :: es) X.env)) (backToKw pos (keywordEach [] X.env))) := by rfl) :
    PE X (.Call (.Attribute o m apos) (e :: es) [] pos) (tMeth C m sp [] E0 ta t) := by
  obtain ⟨f, fd, F, hm, hb⟩ := D.ex
  exact pe_meth he D.cl hm F hr hb .nil pass0 ha hst hpl ht
theorem pe_mth0 (D : Mth X.prog X.w X.K X.mg X.base k C m ps sp) (hr : Room k X.A) {pl : Sem Bool} (he : PE X o ta)
    (ht : eval (.Call (.Attribute o m apos) [] [] pos) X.env = (do
      let ov ← eval o X.env
      standAt apos.atName
      let (f, first) ← holding [ov] (getMethod ov m pl)
      callWith pos f first (backTo pos (starEach [] X.env)) (backToKw pos (keywordEach [] X.env))) := by rfl) :
    PE X (.Call (.Attribute o m apos) [] [] pos) (tMeth C m sp [] E0 ta tNil) := by
  obtain ⟨f, fd, F, hm, hb⟩ := D.ex
  exact pe_meth0 he D.cl hm F hr hb .nil pass0 ht
theorem pe_ini (D : Ini X.prog X.w X.K X.mg X.base k x C ps sp) (hr : Room (k + 1) X.A) (hg : Gl X x) (ha : PA X (e :: es) t)
    (hdb : (x == ("__debug__" : Str)) = false := by decide) (he : starEach (e :: es) X.env = (false, eval e X.env) :: starEach es X.env := by rfl) (hpl : (backTo pos (starEach es X.env)).any (·.1) = false := by rfl) :
    PE X (.Call (.Name x p) (e :: es) [] pos) (tMake C sp [] E0 t) := by
  obtain ⟨f, fd, F, M, hm, hb⟩ := D.ex
  exact pe_make M F hr hg hm hb .nil pass0 ha hdb he hpl
/-- a module's constant -/
theorem pe_gi {n : Int} (h : ∃ t, X.mg x = some (.int n t)) (hg : Gl X x := by rfl) (hd : (x == ("__debug__" : Str)) = false := by decide) : PE X (.Name x p) (tC (.int n)) := by
  obtain ⟨t, h⟩ := h
  exact pe_glob (v := .int n) hg h ⟨_, rfl⟩ hd
theorem pe_gs {z : Str} (h : ∃ t, X.mg x = some (.str z t)) (hg : Gl X x := by rfl) (hd : (x == ("__debug__" : Str)) = false := by decide) : PE X (.Name x p) (tC (.str z)) := by
  obtain ⟨t, h⟩ := h
  exact pe_glob (v := .str z) hg h ⟨_, rfl⟩ hd
theorem pe_gr {a : Addr} (h : X.mg x = some (.ref a)) (hg : Gl X x := by rfl) (hd : (x == ("__debug__" : Str)) = false := by decide) : PE X (.Name x p) (tC (.ref a)) := pe_glob (v := .ref a) hg h rfl hd
theorem pt_u (ha : PE X o ta) (he : ∀ whole, isTrue o X.env whole = (do let v ← whole; standAt o.pos; holding [v] (truthy v)) := by intro _; rfl) : PT X o (uTru X.K ta) := pt_truth ha he
end

/-! stepping through a reading -/
section
variable {K : PySem.W.Frag} {σ : L2.St} {H : Hp} {ta tb te tl th : TE} {t u : TT} {x y z v : V} {D : Ends} {tu tw tz : TS} {tr : TA} {Q : VK} {E : XK} {r : R2} {i j : Nat} {g : TG}
theorem i_var (h : σ[i]? = some (some v)) (k : Q v H) : tVar i σ H Q := ⟨v, h, k⟩
theorem i_c (k : Q v H) : tC v σ H Q := k
theorem i_op (k : ta σ H fun x H1 => tb σ H1 fun y H2 => r x y H2 Q) : tOp r ta tb σ H Q := k
theorem i_un {r : V → Hp → VK → Prop} (k : ta σ H fun x H1 => r x H1 Q) : tUn r ta σ H Q := k
theorem i_nil {Q : List V → Hp → Prop} (k : Q [] H) : tNil σ H Q := k
theorem i_cons {Q : List V → Hp → Prop} (k : te σ H fun x H1 => tr σ H1 fun xs H2 => Q (x :: xs) H2) : tCons te tr σ H Q := k
theorem i_tup (k : tr σ H fun xs H1 => xs.length ≤ sizeLine ∧ ∀ p, H1 p = none → Q (.ref p) (upd H1 p (.tup xs))) : tTup tr σ H Q := k
theorem i_lst (k : tr σ H fun xs H1 => xs.length ≤ sizeLine ∧ ∀ p, H1 p = none → Q (.ref p) (upd H1 p (.lst xs))) : tLst tr σ H Q := k
theorem i_cb {r : List V → Hp → VK → Prop} (k : tr σ H fun vs H1 => r vs H1 Q) : tCB r tr σ H Q := k
theorem i_call {sp : Sp} (k : tr σ H fun vs H1 => sp vs H1 Q E) : tCall sp [] E tr σ H Q := by
  unfold tCall
  simp only [List.append_nil]
  exact k
def gMeth (C : Addr) (m : Str) (sp : Sp) (E : XK) (t : TA) (x : V) (σ : L2.St) (H : Hp) (Q : VK) : Prop := ∃ a dx fs, x = .ref a ∧ H a = some (.ins C dx fs) ∧ fs.lookup m = none ∧ t σ H fun vs H2 => sp (x :: vs) H2 Q E
theorem i_meth {C : Addr} {m : Str} {sp : Sp} (k : te σ H fun x H1 => gMeth C m sp E tr x σ H1 Q) : tMeth C m sp [] E te tr σ H Q := by
  unfold tMeth
  simp only [List.append_nil]
  exact k
theorem g_meth {C dx a : Addr} {m : Str} {sp : Sp} {fs : List (Str × V)} (h : H a = some (.ins C dx fs)) (l : fs.lookup m = none) (k : tr σ H fun vs H2 => sp (.ref a :: vs) H2 Q E) : gMeth C m sp E tr (.ref a) σ H Q := ⟨a, dx, fs, rfl, h, l, k⟩
def gFld (K : PySem.W.Frag) (f : Str) (x : V) (H : Hp) (Q : VK) : Prop := ∃ a C dx fs v, x = .ref a ∧ H a = some (.ins C dx fs) ∧ Cls K C ∧ NoAttr K C f ∧ fs.lookup f = some v ∧ Q v H
theorem i_fld {f : Str} (k : te σ H fun x H1 => gFld K f x H1 Q) : tFld K te f σ H Q := k
theorem g_fld {C dx a : Addr} {f : Str} {fs : List (Str × V)} (h : H a = some (.ins C dx fs)) (c : Cls K C) (n : NoAttr K C f) (l : fs.lookup f = some v) (k : Q v H) : gFld K f (.ref a) H Q := ⟨a, C, dx, fs, v, rfl, h, c, n, l, k⟩
theorem i_make {C : Addr} {sp : Sp} (k : tr σ H fun vs H1 => ∀ x dx, H1 x = none → H1 dx = none → dx ≠ x → sp (.ref x :: vs) (upd (upd H1 dx (.own x)) x (.ins C dx [])) (fun v H2 => v = .non ∧ Q (.ref x) H2) E) : tMake C sp [] E tr σ H Q := by
  unfold tMake
  simp only [List.append_nil]
  exact k
theorem i_if (k : t σ H fun c H1 => if c = true then ta σ H1 Q else tb σ H1 Q) : tIf t ta tb σ H Q := k
theorem i_sl {r : V → Option Int → Option Int → Hp → VK → Prop} {tl th : TO} (k : te σ H fun x H1 => tl σ H1 fun l H2 => th σ H2 fun u H3 => r x l u H3 Q) : tSl r te tl th σ H Q := k
theorem i_nopart {Q : Option Int → Hp → Prop} (k : Q none H) : tNoPart σ H Q := k
def gPart (x : V) (H : Hp) (Q : Option Int → Hp → Prop) : Prop := ∃ i, x = .int i ∧ Q (some i) H
theorem i_part {Q : Option Int → Hp → Prop} (k : te σ H fun x H1 => gPart x H1 Q) : tPart te σ H Q := k
theorem g_part {n : Int} {Q : Option Int → Hp → Prop} (k : Q (some n) H) : gPart (.int n) H Q := ⟨n, rfl, k⟩
/- tests -/
def gB (x : V) (H : Hp) (Q : Bool → Hp → Prop) : Prop := ∃ k, x = .bl k ∧ Q k H
theorem i_test {Q : Bool → Hp → Prop} (k : te σ H fun x H1 => gB x H1 Q) : tTest te σ H Q := k
theorem i_tB {Q : Bool → Hp → Prop} (k : te σ H fun x H1 => gB x H1 Q) : tB te σ H Q := k
theorem g_b {b : Bool} {Q : Bool → Hp → Prop} (k : Q b H) : gB (.bl b) H Q := ⟨b, rfl, k⟩
def gTru (K : PySem.W.Frag) (x : V) (H : Hp) (Q : Bool → Hp → Prop) : Prop := ∃ k, TruV K x H k ∧ Q k H
theorem i_tru {Q : Bool → Hp → Prop} (k : te σ H fun x H1 => gTru K x H1 Q) : uTru K te σ H Q := k
theorem g_truB {b : Bool} {Q : Bool → Hp → Prop} (k : Q b H) : gTru K (.bl b) H Q := ⟨b, rfl, k⟩
theorem i_and {Q : Bool → Hp → Prop} (k : t σ H fun c H1 => if c = true then u σ H1 Q else Q false H1) : tAnd t u σ H Q := k
theorem i_or {Q : Bool → Hp → Prop} (k : t σ H fun c H1 => if c = true then Q true H1 else u σ H1 Q) : tOr t u σ H Q := k
theorem i_not {Q : Bool → Hp → Prop} (k : t σ H fun c H1 => Q (!c) H1) : tNot t σ H Q := k
def gAndV (tb : TE) (x : V) (σ : L2.St) (H : Hp) (Q : VK) : Prop := ∃ c, x = .bl c ∧ if c = true then tb σ H Q else Q (.bl false) H
def gOrV (tb : TE) (x : V) (σ : L2.St) (H : Hp) (Q : VK) : Prop := ∃ c, x = .bl c ∧ if c = true then Q (.bl true) H else tb σ H Q
def gNotV (x : V) (H : Hp) (Q : VK) : Prop := ∃ c, x = .bl c ∧ Q (.bl (!c)) H
theorem i_andV (k : ta σ H fun x H1 => gAndV tb x σ H1 Q) : tAndV ta tb σ H Q := k
theorem i_orV (k : ta σ H fun x H1 => gOrV tb x σ H1 Q) : tOrV ta tb σ H Q := k
theorem i_notV (k : ta σ H fun x H1 => gNotV x H1 Q) : tNotV ta σ H Q := k
theorem g_andV {c : Bool} (k : if c = true then tb σ H Q else Q (.bl false) H) : gAndV tb (.bl c) σ H Q := ⟨c, rfl, k⟩
theorem g_orV {c : Bool} (k : if c = true then Q (.bl true) H else tb σ H Q) : gOrV tb (.bl c) σ H Q := ⟨c, rfl, k⟩
theorem g_notV {c : Bool} (k : Q (.bl (!c)) H) : gNotV (.bl c) H Q := ⟨c, rfl, k⟩
/- statements -/
theorem i_next (k : D.nx σ H) : tNext D σ H := k
theorem i_seq {a c d : L2.St → Hp → Prop} {b : VK} (k : tu ⟨tz ⟨a, b, c, d⟩, b, c, d⟩ σ H) : tSeq tu tz ⟨a, b, c, d⟩ σ H := k
theorem i_seqN {a c d : L2.St → Hp → Prop} {b : VK} (k : ∀ N : L2.St → Hp → Prop, (∀ σ' H', tz ⟨a, b, c, d⟩ σ' H' → N σ' H') → tu ⟨N, b, c, d⟩ σ H) : tSeq tu tz ⟨a, b, c, d⟩ σ H := k _ fun _ _ h => h
theorem t_nx {N M : L2.St → Hp → Prop} (h : ∀ σ' H', M σ' H' → N σ' H') (k : M σ H) : N σ H := h _ _ k
theorem i_asg (k : te σ H fun x H1 => g x σ H1 D.nx) : tAsg te g D σ H := k
theorem i_name {Q : L2.St → Hp → Prop} {σ' : L2.St} (e : σ.set i (some v) = σ') (k : Q σ' H) : gName i v σ H Q := by
  subst e
  exact k
theorem i_drop (k : te σ H fun _ H1 => D.nx σ H1) : tDrop te D σ H := k
theorem i_ret (k : te σ H D.rt) : tRet te D σ H := k
theorem i_retN (k : D.rt .non H) : tRetN D σ H := k
theorem i_ifS (k : t σ H fun b H1 => if b = true then tu D σ H1 else tw D σ H1) : tIfS t tu tw D σ H := k
theorem i_aug {ti : TIp} (h : σ[i]? = some (some x)) (k : te σ H fun y H1 => ti x y H1 fun z H2 => D.nx (σ.set i (some z)) H2) : tAug i te ti D σ H := ⟨x, h, k⟩
theorem g_ipI {f : Int → Int → Int} {m n : Int} (k : Q (.int (f m n)) H) : ipI f (.int m) (.int n) H Q := ⟨m, n, rfl, rfl, k⟩
theorem i_augS {to ti : TE} {tget : V → V → Hp → VK → Prop} {tip : TIp} {tset : TSet} (k : to σ H fun o H1 => ti σ H1 fun i H2 => tget o i H2 fun x H3 => te σ H3 fun y H4 => tip x y H4 fun z H5 => tset o i z H5 fun H6 => D.nx σ H6) : tAugS to ti te tget tip tset D σ H := k
def gSfld (K : PySem.W.Frag) (f : Str) (x y : V) (H : Hp) (Q : Hp → Prop) : Prop := ∃ a C dx fs, x = .ref a ∧ H a = some (.ins C dx fs) ∧ Cls K C ∧ NoAttr K C f ∧ fs.length < 1000 ∧ Q (upd H a (.ins C dx (putF f y fs)))
theorem i_sub {to ti : TE} {t : TSet} {Q : L2.St → Hp → Prop} (k : to σ H fun o H1 => ti σ H1 fun i H2 => t o i v H2 fun H3 => Q σ H3) : gSub to ti t v σ H Q := k
theorem p_nx {a c d : L2.St → Hp → Prop} {b : VK} (k : a σ H) : Ends.nx ⟨a, b, c, d⟩ σ H := k
theorem p_bk {a c d : L2.St → Hp → Prop} {b : VK} (k : c σ H) : Ends.bk ⟨a, b, c, d⟩ σ H := k
theorem p_ct {a c d : L2.St → Hp → Prop} {b : VK} (k : d σ H) : Ends.ct ⟨a, b, c, d⟩ σ H := k
theorem p_rt {a c d : L2.St → Hp → Prop} {b : VK} (k : b v H) : Ends.rt ⟨a, b, c, d⟩ v H := k
/- operators -/
theorem g_I0 {g : Int → Int → V} {m n : Int} (k : Q (g m n) H) : rI0 g (.int m) (.int n) H Q := ⟨m, n, rfl, rfl, k⟩
theorem g_I {C : Int → Int → Prop} {g : Int → Int → V} {m n : Int} (c : C m n) (k : Q (g m n) H) : rI C g (.int m) (.int n) H Q := ⟨m, n, rfl, rfl, c, k⟩
theorem g_neg {m : Int} (k : Q (.int (-m)) H) : rU (fun i => .int (-i)) (.int m) H Q := ⟨m, rfl, k⟩
theorem g_addI {m n : Int} (k : Q (.int (m + n)) H) : uAdd K (.int m) (.int n) H Q := .inl ⟨m, n, rfl, rfl, k⟩
theorem g_addS {m n : Str} (c : m.length + n.length ≤ sizeLine) (k : Q (.str (m ++ n)) H) : uAdd K (.str m) (.str n) H Q := .inr (.inl ⟨m, n, rfl, rfl, c, k⟩)
theorem g_addL {a b : Addr} {xs ys : List V} (ha : H a = some (.lst xs)) (hb : H b = some (.lst ys)) (c : xs.length + ys.length ≤ sizeLine) (k : ∀ p, H p = none → Q (.ref p) (upd H p (.lst (xs ++ ys)))) : uAdd K (.ref a) (.ref b) H Q := .inr (.inr (.inl ⟨a, b, xs, ys, rfl, rfl, ha, hb, c, k⟩))
theorem g_mul {m n : Int} (c : CMul m n ∨ CMulW m n) (k : Q (.int (m * n)) H) : uMul (.int m) (.int n) H Q := ⟨m, n, rfl, rfl, c, k⟩
theorem g_div {m n : Int} (c : CDiv m n ∨ CDivW m n) (k : Q (.int (m / n)) H) : uDiv (.int m) (.int n) H Q := ⟨m, n, rfl, rfl, c, k⟩
theorem dec_I {m n : Int} : decide (V.int m = V.int n) = decide (m = n) := by
  by_cases h : m = n
  · subst h; simp
  · rw [decide_eq_false h, decide_eq_false (fun q => h (V.int.inj q))]
theorem dec_S {m n : Str} : decide (V.str m = V.str n) = decide (m = n) := by
  by_cases h : m = n
  · subst h; simp
  · rw [decide_eq_false h, decide_eq_false (fun q => h (V.str.inj q))]
theorem g_eqI {m n : Int} (k : Q (.bl (decide (m = n))) H) : uEq K (.int m) (.int n) H Q := .inl ⟨rfl, by rw [dec_I]; exact k⟩
theorem g_neI {m n : Int} (k : Q (.bl (!decide (m = n))) H) : uNe K (.int m) (.int n) H Q := .inl ⟨rfl, by rw [dec_I]; exact k⟩
theorem g_eqS {m n : Str} (k : Q (.bl (decide (m = n))) H) : uEq K (.str m) (.str n) H Q := .inl ⟨rfl, by rw [dec_S]; exact k⟩
theorem g_neS {m n : Str} (k : Q (.bl (!decide (m = n))) H) : uNe K (.str m) (.str n) H Q := .inl ⟨rfl, by rw [dec_S]; exact k⟩
theorem g_isN (k : Q (.bl (decide (x = .non))) H) : (fun (x y : V) (H : Hp) (Q : VK) => y = .non ∧ Q (.bl (decide (x = .non))) H) x .non H Q := ⟨rfl, k⟩
theorem g_ixL {p : Addr} {xs : List V} {n : Int} (h : SqL K H p xs) (a : atI xs n = some v) (k : Q v H) : rIx K (.ref p) (.int n) H Q := .inl ⟨p, xs, n, v, rfl, rfl, h, a, k⟩
theorem g_ixT {p : Addr} {xs : List V} {n : Int} (h : SqT K H p xs) (a : atI xs n = some v) (k : Q v H) : rIx K (.ref p) (.int n) H Q := .inr (.inl ⟨p, xs, n, v, rfl, rfl, h, a, k⟩)
theorem g_ixS {w : Str} {n : Int} {c : Nat} (h : w.length ≤ sizeLine) (a : atI w.cps.toList n = some c) (k : Q (.str ⟨#[c]⟩) H) : rIx K (.str w) (.int n) H Q := .inr (.inr ⟨w, n, c, rfl, rfl, h, a, k⟩)
theorem g_ixLg {p : Addr} {xs : List V} {n : Int} (h : SqL K H p xs) (a : atI xs n = some v) (k : Q v H) : rIxL K (.ref p) (.int n) H Q := ⟨p, xs, n, v, rfl, rfl, h, a, k⟩
theorem g_setL {p : Addr} {xs ys : List V} {n : Int} {j : Nat} {Q : Hp → Prop} (h : H p = some (.lst xs)) (a : ixN xs.length n = some j) (e : xs.set j v = ys) (k : Q (upd H p (.lst ys))) : rSetL (.ref p) (.int n) v H Q := ⟨p, xs, n, j, rfl, rfl, h, a, by rw [e]; exact k⟩
theorem g_slS {w : Str} {lo hi : Option Int} (h : w.length ≤ sizeLine) (k : Q (.str (cutS w lo hi)) H) : uSl K (.str w) lo hi H Q := .inr (.inr ⟨w, rfl, h, k⟩)
theorem g_slL {p : Addr} {xs : List V} {lo hi : Option Int} (h : SqL K H p xs) (k : ∀ q, H q = none → Q (.ref q) (upd H q (.lst (cutV xs lo hi)))) : uSl K (.ref p) lo hi H Q := .inl ⟨p, xs, rfl, h, k⟩
theorem g_lenL {p : Addr} {xs : List V} (h : SqL K H p xs) (k : Q (.int xs.length) H) : uLen K [.ref p] H Q := ⟨.ref p, xs.length, rfl, .inl ⟨xs, h, rfl⟩, k⟩
theorem g_lenT {p : Addr} {xs : List V} (h : SqT K H p xs) (k : Q (.int xs.length) H) : uLen K [.ref p] H Q := ⟨.ref p, xs.length, rfl, .inr ⟨xs, h, rfl⟩, k⟩
theorem g_lenS {w : Str} (h : w.length ≤ sizeLine) (k : Q (.int w.length) H) : uLen K [.str w] H Q := ⟨.str w, w.length, rfl, ⟨h, rfl⟩, k⟩
theorem g_uInt {m : Int} (k : Q (.int m) H) : uInt [.int m] H Q := .inl (.inl ⟨m, rfl, k⟩)
theorem g_uIntS {a : Str} {n : Int} (h : PySem.intText? a = some n) (c : a.length ≤ 640) (k : Q (.int n) H) : uInt [.str a] H Q := .inr ⟨a, n, rfl, h, c, k⟩
/- branches -/
theorem br {c A B : Prop} [Decidable c] (h1 : c → A) (h2 : ¬ c → B) : if decide c = true then A else B := by
  by_cases h : c
  · rw [if_pos (decide_eq_true h)]; exact h1 h
  · rw [if_neg (by simp [h])]; exact h2 h
theorem brn {c A B : Prop} [Decidable c] (h1 : ¬ c → A) (h2 : c → B) : if (!decide c) = true then A else B := by
  by_cases h : c
  · rw [if_neg (by simp [h])]; exact h2 h
  · rw [if_pos (by simp [h])]; exact h1 h
theorem brB {b : Bool} {A B : Prop} (h1 : b = true → A) (h2 : b = false → B) : if b = true then A else B := by
  cases b
  · rw [if_neg (by simp)]; exact h2 rfl
  · rw [if_pos rfl]; exact h1 rfl
theorem brT {b : Bool} {A B : Prop} (h : b = true) (k : A) : if b = true then A else B := by rw [if_pos h]; exact k
theorem brF {b : Bool} {A B : Prop} (h : b = false) (k : B) : if b = true then A else B := by rw [if_neg (by simp [h])]; exact k
/- a new object; a changed one -/
def Off (a : Addr) (H H' : Hp) : Prop := ∀ b o, b ≠ a → H b = some o → H' b = some o
theorem n_new {o : HO} (c : ∀ p H', H p = none → Same H H' → H' p = some o → Q (.ref p) H') : ∀ p, H p = none → Q (.ref p) (upd H p o) := fun p hp => c p _ hp (fun b u e => by rw [upd_ne (ne_of_none e hp)]; exact e) upd_same
theorem n_size {xs : List V} {A : Prop} (c : xs.length ≤ sizeLine) (k : A) : xs.length ≤ sizeLine ∧ A := ⟨c, k⟩
end
end Eg

set_option Elab.async false
set_option linter.all false
set_option maxRecDepth 100000
set_option maxHeartbeats 4000000
namespace Eg
open PySem PySem.Spec PyProof.Rows L2 Rl SX

/-! loops -/
def gFor (J : It) (g : TG) (tb : TS) (D : Ends) (σ : L2.St) (H : Hp) : Prop := ∃ W : Nat → Nat → L2.St → Hp → Prop, (∃ m, W 0 m σ H) ∧ ∀ i m σ H, W i m σ H →
  (J.stop i H ∧ D.nx σ H) ∨ (J.go i H ∧ ∃ N : L2.St → Hp → Prop, (∀ σ' H', N σ' H' → ∃ m', m' < m ∧ W (i + 1) m' σ' H') ∧ ∀ x H', J.yld i H x H' → g x σ H' fun σ2 H2 => tb { D with nx := N, ct := N, bk := D.nx } σ2 H2)
def gLc (J : It) (g : TG) (tt : TT) (te : TE) (vs : List Nat) (σ : L2.St) (H1 : Hp) (Q : VK) : Prop := ∀ D, H1 D = none → ∃ W : Nat → Nat → Hp → Prop, (∃ m, W 0 m (upd H1 D (.lst []))) ∧ ∀ i m H, W i m H →
  (J.stop i H ∧ Q (.ref D) H) ∨ (J.go i H ∧ ∃ Nx : Hp → Prop, (∀ H', Nx H' → ∃ m', m' < m ∧ W (i + 1) m' H') ∧ ∀ x H', J.yld i H x H' → g x (wipe σ vs) H' fun σ2 H2 => wipe σ2 vs = wipe σ vs ∧ tt σ2 H2 fun b H3 =>
    if b = true then te σ2 H3 fun y H4 => ∃ acc, H4 D = some (.lst acc) ∧ acc.length < sizeLine ∧ Nx (upd H4 D (.lst (acc ++ [y]))) else Nx H3)
section
variable {K : PySem.W.Frag} {σ : L2.St} {H : Hp} {ta tb te tl th : TE} {t u tt : TT} {x y z v : V} {D : Ends} {tu tw tz : TS} {tr : TA} {Q : VK} {E : XK} {r : R2} {i j n : Nat} {g : TG} {wi : TI} {J : It} {vs : List Nat} {R : It → Hp → Prop}
theorem i_for {a b c : L2.St → Hp → Prop} {d : VK} (k : wi σ H fun J H1 => gFor J g tu ⟨a, d, b, c⟩ σ H1) : tFor wi g tu ⟨a, d, b, c⟩ σ H := k
theorem i_lc (k : wi σ H fun J H1 => gLc J g tt te vs σ H1 Q) : tLc wi g tt te vs σ H Q := k
def gIterL (K : PySem.W.Frag) (x : V) (H : Hp) (R : It → Hp → Prop) : Prop := ∃ a, x = .ref a ∧ (∃ xs, SqL K H a xs) ∧ R (Itl K a) H
def gIterT (K : PySem.W.Frag) (x : V) (H : Hp) (R : It → Hp → Prop) : Prop := ∃ a, x = .ref a ∧ (∃ xs, SqT K H a xs) ∧ R (Itt K a) H
def gRng1 (vs : List V) (H : Hp) (R : It → Hp → Prop) : Prop := ∃ j : Int, vs = [.int j] ∧ -(2 ^ 62) ≤ j ∧ j < 2 ^ 62 ∧ R (Itr 0 j.toNat) H
def gRng2 (vs : List V) (H : Hp) (R : It → Hp → Prop) : Prop := ∃ i j : Int, vs = [.int i, .int j] ∧ (-(2 ^ 62) ≤ i ∧ i < 2 ^ 62 ∧ -(2 ^ 62) ≤ j ∧ j < 2 ^ 62) ∧ R (Itr i (j - i).toNat) H
def gEnum (K : PySem.W.Frag) (vs : List V) (H : Hp) (R : It → Hp → Prop) : Prop := ∃ a xs, vs = [.ref a] ∧ SqL K H a xs ∧ R (Ite K a) H
def gEnumS (vs : List V) (H : Hp) (R : It → Hp → Prop) : Prop := ∃ x, vs = [.str x] ∧ R (ItS x) H
def gIterS (x : V) (H : Hp) (R : It → Hp → Prop) : Prop := ∃ z, x = .str z ∧ R (Its z) H
theorem i_iL (k : te σ H fun x H1 => gIterL K x H1 R) : iList K te σ H R := k
theorem i_iT (k : te σ H fun x H1 => gIterT K x H1 R) : iTup K te σ H R := k
theorem i_r1 (k : tr σ H fun vs H1 => gRng1 vs H1 R) : iRng1 tr σ H R := k
theorem i_r2 (k : tr σ H fun vs H1 => gRng2 vs H1 R) : iRng2 tr σ H R := k
theorem i_en (k : tr σ H fun vs H1 => gEnum K vs H1 R) : iEnum K tr σ H R := k
theorem i_eS (k : tr σ H fun vs H1 => gEnumS vs H1 R) : iEnumS tr σ H R := k
theorem i_iS (k : te σ H fun x H1 => gIterS x H1 R) : iStr te σ H R := k
theorem g_iL {a : Addr} {xs : List V} (h : SqL K H a xs) (k : R (Itl K a) H) : gIterL K (.ref a) H R := ⟨a, rfl, ⟨xs, h⟩, k⟩
theorem g_iT {a : Addr} {xs : List V} (h : SqT K H a xs) (k : R (Itt K a) H) : gIterT K (.ref a) H R := ⟨a, rfl, ⟨xs, h⟩, k⟩
theorem g_r1 {m : Int} (c : -(2 ^ 62) ≤ m ∧ m < 2 ^ 62) (k : R (Itr 0 m.toNat) H) : gRng1 [.int m] H R := ⟨m, rfl, c.1, c.2, k⟩
theorem g_r2 {m l : Int} (c : -(2 ^ 62) ≤ l ∧ l < 2 ^ 62 ∧ -(2 ^ 62) ≤ m ∧ m < 2 ^ 62) (k : R (Itr l (m - l).toNat) H) : gRng2 [.int l, .int m] H R := ⟨l, m, rfl, c, k⟩
theorem g_en {a : Addr} {xs : List V} (h : SqL K H a xs) (k : R (Ite K a) H) : gEnum K [.ref a] H R := ⟨a, xs, rfl, h, k⟩
theorem g_eS {w : Str} (k : R (ItS w) H) : gEnumS [.str w] H R := ⟨w, rfl, k⟩
theorem g_iS {w : Str} (k : R (Its w) H) : gIterS (.str w) H R := ⟨w, rfl, k⟩
theorem walk_enumS {w : Str} : Walk (ItS w) w.cps.size (fun _ => True) (YPair (fun i => some (.int (i : Nat))) (fun i => (w.cps[i]?).map fun c => .str ⟨#[c]⟩)) :=
  ⟨fun _ _ hi _ => hi, fun _ _ => Nat.le_refl _, fun i H v H' _ _ y => by
    obtain ⟨T, c, h1, h2, h3, h4⟩ := y
    exact ⟨T, .int (i : Nat), .str ⟨#[c]⟩, h1, h2, h3, rfl, by show Option.map _ (w.cps[i]?) = _; rw [h4]; rfl⟩⟩
/-- a for over anything that walks -/
theorem f_it {G : Hp → Prop} {Y : Nat → Hp → V → Hp → Prop} {a b c : L2.St → Hp → Prop} {d : VK} (w : Walk J n G Y) (Pv : Nat → L2.St → Hp → Prop) (h0 : Pv 0 σ H) (hG : ∀ i σ H, i ≤ n → Pv i σ H → G H)
    (hs : ∀ i x σ H H', i < n → Pv i σ H → Y i H x H' → g x σ H' fun σ2 H2 => tu ⟨Pv (i + 1), d, a, Pv (i + 1)⟩ σ2 H2) (hd : ∀ σ H, Pv n σ H → a σ H) : gFor J g tu ⟨a, d, b, c⟩ σ H := for_it w Pv h0 hG hs hd
/-- a for over range -/
theorem f_rng {lo : Int} {a b c : L2.St → Hp → Prop} {d : VK} (Pv : Nat → L2.St → Hp → Prop) (h0 : Pv 0 σ H)
    (hs : ∀ i σ H, i < n → Pv i σ H → g (.int (lo + i)) σ H fun σ2 H2 => tu ⟨Pv (i + 1), d, a, Pv (i + 1)⟩ σ2 H2) (hd : ∀ σ H, Pv n σ H → a σ H) : gFor (Itr lo n) g tu ⟨a, d, b, c⟩ σ H :=
  f_it walk_range Pv h0 (fun _ _ _ _ _ => trivial) (fun i x σ H H' hi p y => by obtain ⟨e, e2⟩ := y; subst e e2; exact hs i σ _ hi p) hd
/-- a for over a list that stands still -/
theorem f_lst {l : Addr} {xs : List V} {a b c : L2.St → Hp → Prop} {d : VK} (Pv : Nat → L2.St → Hp → Prop) (h0 : Pv 0 σ H) (hl : ∀ i σ H, i ≤ xs.length → Pv i σ H → SqL K H l xs)
    (hs : ∀ i x σ H, xs[i]? = some x → Pv i σ H → g x σ H fun σ2 H2 => tu ⟨Pv (i + 1), d, a, Pv (i + 1)⟩ σ2 H2) (hd : ∀ σ H, Pv xs.length σ H → a σ H) : gFor (Itl K l) g tu ⟨a, d, b, c⟩ σ H :=
  f_it walk_list Pv h0 hl (fun i x σ H H' hi p y => by obtain ⟨e, e2⟩ := y; subst e; exact hs i x σ _ e2 p) hd
theorem f_tup {l : Addr} {xs : List V} {a b c : L2.St → Hp → Prop} {d : VK} (Pv : Nat → L2.St → Hp → Prop) (h0 : Pv 0 σ H) (hl : ∀ i σ H, i ≤ xs.length → Pv i σ H → SqT K H l xs)
    (hs : ∀ i x σ H, xs[i]? = some x → Pv i σ H → g x σ H fun σ2 H2 => tu ⟨Pv (i + 1), d, a, Pv (i + 1)⟩ σ2 H2) (hd : ∀ σ H, Pv xs.length σ H → a σ H) : gFor (Itt K l) g tu ⟨a, d, b, c⟩ σ H :=
  f_it walk_tup Pv h0 hl (fun i x σ H H' hi p y => by obtain ⟨e, e2⟩ := y; subst e; exact hs i x σ _ e2 p) hd
theorem f_str {w : Str} {a b c : L2.St → Hp → Prop} {d : VK} (Pv : Nat → L2.St → Hp → Prop) (h0 : Pv 0 σ H)
    (hs : ∀ i c σ H, w.cps.toList[i]? = some c → Pv i σ H → g (.str (S [c])) σ H fun σ2 H2 => tu ⟨Pv (i + 1), d, a, Pv (i + 1)⟩ σ2 H2) (hd : ∀ σ H, Pv w.cps.toList.length σ H → a σ H) : gFor (Its w) g tu ⟨a, d, b, c⟩ σ H :=
  f_it walk_str Pv h0 (fun _ _ _ _ _ => trivial) (fun i x σ H H' hi p y => by obtain ⟨e, c, e2, e3⟩ := y; subst e e3; exact hs i c σ _ (by simpa using e2) p) hd
theorem f_enumS {w : Str} {a b c : L2.St → Hp → Prop} {d : VK} (Pv : Nat → L2.St → Hp → Prop) (h0 : Pv 0 σ H)
    (hs : ∀ i c σ H T H', w.cps.toList[i]? = some c → Pv i σ H → H T = none → Same H H' → H' T = some (.tup [.int (i : Nat), .str (S [c])]) → g (.ref T) σ H' fun σ2 H2 => tu ⟨Pv (i + 1), d, a, Pv (i + 1)⟩ σ2 H2) (hd : ∀ σ H, Pv w.cps.toList.length σ H → a σ H) : gFor (ItS w) g tu ⟨a, d, b, c⟩ σ H :=
  f_it walk_enumS Pv h0 (fun _ _ _ _ _ => trivial) (fun i x σ H H' hi p y => by
    obtain ⟨T, x1, y1, e1, e2, e3, e4, e5⟩ := y
    subst e1 e3
    cases e4
    replace e5 : Option.map _ (w.cps[i]?) = _ := e5
    cases ec : w.cps[i]? with
    | none => rw [ec] at e5; cases e5
    | some c =>
      rw [ec] at e5
      cases e5
      exact hs i c σ H T _ (by simpa using ec) p e2 (fun b u e => by rw [upd_ne (ne_of_none e e2)]; exact e) upd_same) hd
theorem f_enum {l : Addr} {xs : List V} {a b c : L2.St → Hp → Prop} {d : VK} (Pv : Nat → L2.St → Hp → Prop) (h0 : Pv 0 σ H) (hl : ∀ i σ H, i ≤ xs.length → Pv i σ H → SqL K H l xs)
    (hs : ∀ i x σ H T H', xs[i]? = some x → Pv i σ H → H T = none → Same H H' → H' T = some (.tup [.int (i : Nat), x]) → g (.ref T) σ H' fun σ2 H2 => tu ⟨Pv (i + 1), d, a, Pv (i + 1)⟩ σ2 H2) (hd : ∀ σ H, Pv xs.length σ H → a σ H) : gFor (Ite K l) g tu ⟨a, d, b, c⟩ σ H :=
  f_it walk_enum Pv h0 hl (fun i x σ H H' hi p y => by
    obtain ⟨T, x1, y1, e1, e2, e3, e4, e5⟩ := y
    subst e1 e3
    cases e4
    exact hs i y1 σ H T _ e5 p e2 (fun b u e => by rw [upd_ne (ne_of_none e e2)]; exact e) upd_same) hd
/-- a comprehension over anything that walks; Pv: the new list's address, the turn, what it holds -/
def gItem (Pv : Addr → Nat → List V → Hp → Prop) (D : Addr) (i : Nat) (y : V) (H4 : Hp) : Prop := ∃ acc, H4 D = some (.lst acc) ∧ acc.length < sizeLine ∧ (∃ acc', (upd H4 D (.lst (acc ++ [y]))) D = some (.lst acc') ∧ acc'.length = i + 1 ∧ Pv D (i + 1) acc' (upd H4 D (.lst (acc ++ [y]))))
theorem g_item {Pv : Addr → Nat → List V → Hp → Prop} {D : Addr} {i : Nat} {acc : List V} (h : H D = some (.lst acc)) (l : acc.length = i) (c : i < sizeLine) (k : Pv D (i + 1) (acc ++ [y]) (upd H D (.lst (acc ++ [y])))) : gItem Pv D i y H :=
  ⟨acc, h, by omega, acc ++ [y], upd_same, by simp [l], k⟩
theorem l_it {G : Hp → Prop} {Y : Nat → Hp → V → Hp → Prop} (w : Walk J n G Y) (Pv : Addr → Nat → List V → Hp → Prop) (h0 : ∀ D, H D = none → Pv D 0 [] (upd H D (.lst []))) (hG : ∀ D i acc H', H D = none → i ≤ n → H' D = some (.lst acc) → Pv D i acc H' → G H')
    (hs : ∀ D i x acc H1 H', H D = none → i < n → H1 D = some (.lst acc) → acc.length = i → Pv D i acc H1 → Y i H1 x H' → g x (wipe σ vs) H' fun σ2 H2 => wipe σ2 vs = wipe σ vs ∧ te σ2 H2 (gItem Pv D i))
    (hd : ∀ D acc H', H D = none → H' D = some (.lst acc) → acc.length = n → Pv D n acc H' → Q (.ref D) H') : gLc J g tYes te vs σ H Q := fun D hD =>
  lc_it w (fun i H' => ∃ acc, H' D = some (.lst acc) ∧ acc.length = i ∧ Pv D i acc H') ⟨[], upd_same, rfl, h0 D hD⟩ (fun i H' hi ⟨acc, e, _, p⟩ => hG D i acc H' hD hi e p)
    (fun i x H1 H' hi ⟨acc, e, l, p⟩ y => hs D i x acc H1 H' hD hi e l p y) (fun H' ⟨acc, e, l, p⟩ => hd D acc H' hD e l p)
end
end Eg

set_option Elab.async false
set_option linter.all false
set_option maxRecDepth 100000
set_option maxHeartbeats 4000000
namespace Eg
open PySem PySem.Spec PyProof.Rows L2 Rl SX

theorem Same.put {H H' : Hp} {p : Addr} {o : HO} (e : Same H H') (h : H p = none) : Same H (upd H' p o) := fun b u q => by
  rw [upd_ne (ne_of_none q h)]
  exact e b u q
theorem off_refl (a : Addr) (H : Hp) : Off a H H := fun _ _ _ e => e
theorem Off.upd {a : Addr} {H H' : Hp} {o : HO} (e : Off a H H') : Off a H (upd H' a o) := fun b u hb q => by
  rw [upd_ne hb]
  exact e b u hb q
theorem Off.same {a : Addr} {H H1 H' : Hp} (e : Off a H H1) (s : Same H1 H') : Off a H H' := fun b u hb q => s b u (e b u hb q)
theorem Off.trans {a : Addr} {H H1 H' : Hp} (e : Off a H H1) (s : Off a H1 H') : Off a H H' := fun b u hb q => s b u hb (e b u hb q)
theorem Same.off {a : Addr} {H H1 H' : Hp} (s : Same H H1) (e : Off a H1 H') : Off a H H' := fun b u hb q => e b u hb (s b u q)
theorem off_of {a : Addr} {H H' : Hp} (s : Same H H') : Off a H H' := fun b u _ q => s b u q
/-- a change at what was not there is none -/
theorem Off.new {a : Addr} {H H' : Hp} (e : Off a H H') (h : H a = none) : Same H H' := fun b u q => e b u (ne_of_none q h) q

section
variable {X : Cx}
def uSplit : V → List V → Hp → VK → Prop := fun x xs H Q => ∃ a b, x = .str a ∧ xs = [.str b] ∧ (b.length == 0) = false ∧ a.length + 2 ≤ sizeLine ∧ rNewStrs (Txt.split a b) H Q
theorem mt_uSplit : MtR X "str.split" uSplit := mt_split
def uSplitM : V → List V → Hp → VK → Prop := fun x xs H Q => ∃ (a b : Str) (k : Int), x = .str a ∧ xs = [.str b, .int k] ∧ (b.length == 0) = false ∧ -(2 ^ 63) ≤ k ∧ k < 2 ^ 63 ∧ a.length + 2 ≤ sizeLine ∧ rNewStrs (Txt.splitMax a b k) H Q
theorem mt_uSplitM : MtR X "str.split" uSplitM := mt_splitMax
def uJoin (K : PySem.W.Frag) : V → List V → Hp → VK → Prop := fun x xs H Q => ∃ a p, ∃ ys : List Str, x = .str a ∧ xs = [.ref p] ∧ (SqL K H p (ys.map V.str) ∨ SqT K H p (ys.map V.str)) ∧ (ys.map (·.length)).sum + ys.length * a.length ≤ 16777216 ∧ Q (.str (Txt.join a ys)) H
theorem mt_uJoin : MtR X "str.join" (uJoin X.K) := mt_join
def uCount : V → List V → Hp → VK → Prop := fun x xs H Q => ∃ a b, x = .str a ∧ xs = [.str b] ∧ Q (.int (Txt.count a b)) H
theorem mt_uCount : MtR X "str.count" uCount := mt_count
def uOrd : List V → Hp → VK → Prop := fun xs H Q => ∃ x, xs = [.str x] ∧ x.length = 1 ∧ Q (.int (x.cps.getD 0 0 : Nat)) H
theorem call_uOrd : CallR X (.builtin "ord") uOrd := call_ord
def uAbs : List V → Hp → VK → Prop := fun xs H Q => ∃ i, xs = [.int i] ∧ Q (.int (if i < 0 then -i else i)) H
theorem call_uAbs : CallR X (.builtin "abs") uAbs := call_abs
def uMax2 : List V → Hp → VK → Prop := fun xs H Q => ∃ i j, xs = [.int i, .int j] ∧ Q (.int (if j > i then j else i)) H
theorem call_uMax2 (hc : X.calm = true) : CallR X (.builtin "max") uMax2 := call_max2 hc
def uMin2 : List V → Hp → VK → Prop := fun xs H Q => ∃ i j, xs = [.int i, .int j] ∧ Q (.int (if j < i then j else i)) H
theorem call_uMin2 (hc : X.calm = true) : CallR X (.builtin "min") uMin2 := call_min2 hc
def uStr : List V → Hp → VK → Prop := fun xs H Q => ∃ i : Int, xs = [.int i] ∧ i.natAbs.log2 < 1920 ∧ Q (.str (toString i)) H
theorem call_uStr : CallR X (.type "str") uStr := call_str_int
def uList (K : PySem.W.Frag) : List V → Hp → VK → Prop := fun xs H Q => ∃ p ys, xs = [.ref p] ∧ (SqL K H p ys ∨ SqT K H p ys) ∧ ∀ l, H l = none → Q (.ref l) (upd H l (.lst ys))
theorem call_uList : CallR X (.type "list") (uList X.K) := call_list_of
def uIsN : R2 := fun x y H Q => y = .non ∧ Q (.bl (decide (x = .non))) H
theorem op_uIsN : OpR X (compareOp .Is) uIsN := op_isN
def uNotN : R2 := fun x y H Q => y = .non ∧ Q (.bl (!decide (x = .non))) H
theorem op_uNotN : OpR X (compareOp .IsNot) uNotN := op_notN
end

section
variable {K : PySem.W.Frag} {w : World} {σ : L2.St} {H : Hp} {ta tb te tl th td ty tx : TE} {t u tt : TT} {x y z v : V} {D : Ends} {tu tw tz : TS} {tr : TA} {Q : VK} {E : XK} {r : R2} {i j n : Nat} {g : TG} {vs : List V}
/- methods of built-in types -/
def gBm (K : PySem.W.Frag) (T : String) (r : V → List V → Hp → VK → Prop) (t : TA) (x : V) (σ : L2.St) (H : Hp) (Q : VK) : Prop := tyV K T x H ∧ t σ H fun xs H2 => r x xs H2 Q
theorem i_bm {T : String} {r : V → List V → Hp → VK → Prop} (k : te σ H fun x H1 => gBm K T r tr x σ H1 Q) : tBM K T r te tr σ H Q := k
theorem i_bm0 {T : String} {r : V → List V → Hp → VK → Prop} (k : te σ H fun x H1 => gBm K T r tNil x σ H1 Q) : tBM0 K T r te σ H Q := k
theorem g_bmL {p : Addr} {xs : List V} {r : V → List V → Hp → VK → Prop} (h : SqL K H p xs) (k : tr σ H fun xs H2 => r (.ref p) xs H2 Q) : gBm K "list" r tr (.ref p) σ H Q := ⟨.inl ⟨rfl, xs, h⟩, k⟩
theorem g_bmS {w : Str} {r : V → List V → Hp → VK → Prop} (k : tr σ H fun xs H2 => r (.str w) xs H2 Q) : gBm K "str" r tr (.str w) σ H Q := ⟨rfl, k⟩
theorem g_app {l : Addr} {xs : List V} (h : H l = some (.lst xs)) (c : xs.length < sizeLine) (k : Q .non (upd H l (.lst (xs ++ [y])))) : rAppend (.ref l) [y] H Q := ⟨l, xs, y, rfl, rfl, h, c, k⟩
theorem g_split {a b : Str} (c : (b.length == 0) = false) (d : a.length + 2 ≤ sizeLine) (k : ∀ p H', H p = none → Same H H' → H' p = some (.lst ((Txt.split a b).map V.str)) → Q (.ref p) H') : uSplit (.str a) [.str b] H Q :=
  ⟨a, b, rfl, rfl, c, d, n_new k⟩
theorem g_splitM {a b : Str} {m : Int} (c : (b.length == 0) = false) (e : -(2 ^ 63) ≤ m ∧ m < 2 ^ 63) (d : a.length + 2 ≤ sizeLine) (k : ∀ p H', H p = none → Same H H' → H' p = some (.lst ((Txt.splitMax a b m).map V.str)) → Q (.ref p) H') : uSplitM (.str a) [.str b, .int m] H Q :=
  ⟨a, b, m, rfl, rfl, c, e.1, e.2, d, n_new k⟩
theorem g_join {a : Str} {p : Addr} {ys : List Str} (h : SqL K H p (ys.map V.str)) (c : (ys.map (·.length)).sum + ys.length * a.length ≤ 16777216) (k : Q (.str (Txt.join a ys)) H) : uJoin K (.str a) [.ref p] H Q := ⟨a, p, ys, rfl, rfl, .inl h, c, k⟩
theorem g_count {a b : Str} (k : Q (.int (Txt.count a b)) H) : uCount (.str a) [.str b] H Q := ⟨a, b, rfl, rfl, k⟩
/- built-ins -/
theorem g_ord {c : Nat} (k : Q (.int (c : Int)) H) : uOrd [.str (S [c])] H Q := ⟨S [c], rfl, rfl, k⟩
theorem g_abs {m : Int} (k : Q (.int (if m < 0 then -m else m)) H) : uAbs [.int m] H Q := ⟨m, rfl, k⟩
theorem g_max2 {m l : Int} (k : Q (.int (if l > m then l else m)) H) : uMax2 [.int m, .int l] H Q := ⟨m, l, rfl, k⟩
theorem g_min2 {m l : Int} (k : Q (.int (if l < m then l else m)) H) : uMin2 [.int m, .int l] H Q := ⟨m, l, rfl, k⟩
theorem log2_small {m : Int} (c : m.natAbs < 2 ^ 64) : m.natAbs.log2 < 1920 := Nat.lt_of_lt_of_le (PySem.Flt.log2_lt_of (by decide) c) (by decide)
theorem g_str {m : Nat} (c : m < 2 ^ 64) (k : Q (.str (S (TL.numL m))) H) : uStr [.int (m : Int)] H Q := ⟨(m : Int), rfl, log2_small (by simpa using c), by have e := num_S m; show Q (.str (Str.ofString (toString (m : Int)))) H; rw [e]; exact k⟩
theorem g_list {p : Addr} {xs : List V} (h : SqL K H p xs) (k : ∀ p H', H p = none → Same H H' → H' p = some (.lst xs) → Q (.ref p) H') : uList K [.ref p] H Q := ⟨p, xs, rfl, .inl h, n_new k⟩
theorem g_sum {p : Addr} {ns : List Int} (h : SqL K H p (ns.map V.int)) (k : Q (.int ns.sum) H) : rSum K [.ref p] H Q := ⟨p, ns, rfl, h, k⟩
theorem g_any {p : Addr} {bs : List Bool} (h : SqL K H p (bs.map V.bl)) (k : Q (.bl (bs.any id)) H) : rAny K [.ref p] H Q := ⟨p, bs, rfl, h, k⟩
theorem g_all {p : Addr} {bs : List Bool} (h : SqL K H p (bs.map V.bl)) (k : Q (.bl (bs.all id)) H) : rAll K [.ref p] H Q := ⟨p, bs, rfl, h, k⟩
theorem g_isi {T tn : String} {b : Bool} (h : TyX K H x (.type tn)) (e : kitB tn T = some b) (k : Q (.bl b) H) : rIsi K [x, .ty T] H Q := ⟨x, .ty T, .type tn, .type T, b, rfl, .ty T, h, kit_ty e, k⟩
theorem g_isNN (k : Q (.bl true) H) : uIsN .non .non H Q := ⟨rfl, k⟩
theorem g_isNx (h : x ≠ .non) (k : Q (.bl false) H) : uIsN x .non H Q := ⟨rfl, by rw [decide_eq_false h]; exact k⟩
theorem g_noNN (k : Q (.bl false) H) : uNotN .non .non H Q := ⟨rfl, k⟩
theorem g_noNx (h : x ≠ .non) (k : Q (.bl true) H) : uNotN x .non H Q := ⟨rfl, by rw [decide_eq_false h]; exact k⟩
theorem g_kd {p : Addr} {z : Str} (h : KDct K w p z v) (k : Q v H) : rIxD K w (.ref p) (.str z) H Q := ⟨p, z, v, rfl, rfl, h, k⟩
/- dicts -/
def gDGet2 (ty tx : TE) (x : V) (σ : L2.St) (H : Hp) (Q : VK) : Prop := ∃ a, x = .ref a ∧ IsD H a ∧ ty σ H fun y H2 => tx σ H2 fun z H3 => ∃ o, DGet H3 a y o ∧ Q (o.getD z) H3
def gDG (a : Addr) (y z : V) (H : Hp) (Q : VK) : Prop := ∃ o, DGet H a y o ∧ Q (o.getD z) H
theorem i_dget2 (k : td σ H fun x H1 => gDGet2 ty tx x σ H1 Q) : tDGet2 td ty tx σ H Q := k
theorem g_dget2 {a : Addr} {kvs : List (Key × V)} (h : Rd H a (.dK kvs)) (k : ty σ H fun y H2 => tx σ H2 fun z H3 => gDG a y z H3 Q) : gDGet2 ty tx (.ref a) σ H Q := ⟨a, rfl, .inl ⟨kvs, h⟩, k⟩
theorem g_dg {a : Addr} {s : Str} {kvs : List (Key × V)} (h : Rd H a (.dK kvs)) (k : Q ((valV kvs (.inr s)).getD z) H) : gDG a (.str s) z H Q := ⟨_, .inl ⟨kvs, .inr s, h, rfl, rfl⟩, k⟩
def gDGet (a y : V) (H : Hp) (Q : VK) : Prop := ∃ p v, a = .ref p ∧ DGet H p y (some v) ∧ Q v H
theorem i_dget (k : td σ H fun x H1 => ty σ H1 fun y H2 => gDGet x y H2 Q) : tDGet td ty σ H Q := k
theorem g_dget {a : Addr} {s : Str} {kvs : List (Key × V)} (h : Rd H a (.dK kvs)) (e : valV kvs (.inr s) = some v) (k : Q v H) : gDGet (.ref a) (.str s) H Q := ⟨a, v, rfl, .inl ⟨kvs, .inr s, h, rfl, e.symm⟩, k⟩
def gDPut (a y v : V) (H : Hp) (Q : Hp → Prop) : Prop := ∃ p H', a = .ref p ∧ DPut H p y v H' ∧ Q H'
theorem i_dput {a b c : L2.St → Hp → Prop} {d : VK} (k : tx σ H fun v H1 => td σ H1 fun x H2 => ty σ H2 fun y H3 => gDPut x y v H3 (a σ)) : sDPut td ty tx ⟨a, d, b, c⟩ σ H := k
theorem g_dput {a : Addr} {s : Str} {kvs : List (Key × V)} {Q : Hp → Prop} (h : H a = some (.dK kvs)) (c : kvs.length < sizeLine) (k : Q (upd H a (.dK (putK kvs (.inr s) v)))) : gDPut (.ref a) (.str s) v H Q := ⟨a, _, rfl, .inl ⟨kvs, .inr s, h, rfl, c, rfl⟩, k⟩
theorem i_dnew (k : ∀ p H', H p = none → Same H H' → H' p = some (.dK []) → Q (.ref p) H') : tDNewK σ H Q := n_new k
/- a new tuple, a new list -/
def gNewT (xs : List V) (H : Hp) (Q : VK) : Prop := xs.length ≤ sizeLine ∧ ∀ p, H p = none → Q (.ref p) (upd H p (.tup xs))
def gNewL (xs : List V) (H : Hp) (Q : VK) : Prop := xs.length ≤ sizeLine ∧ ∀ p, H p = none → Q (.ref p) (upd H p (.lst xs))
theorem i_tupN (k : tr σ H fun xs H1 => gNewT xs H1 Q) : tTup tr σ H Q := k
theorem i_lstN (k : tr σ H fun xs H1 => gNewL xs H1 Q) : tLst tr σ H Q := k
theorem g_newT {xs : List V} (c : xs.length ≤ sizeLine) (k : ∀ p H', H p = none → Same H H' → H' p = some (.tup xs) → Q (.ref p) H') : gNewT xs H Q := ⟨c, n_new k⟩
theorem g_newL {xs : List V} (c : xs.length ≤ sizeLine) (k : ∀ p H', H p = none → Same H H' → H' p = some (.lst xs) → Q (.ref p) H') : gNewL xs H Q := ⟨c, n_new k⟩
theorem g_slL' {p : Addr} {xs : List V} {lo hi : Option Int} (h : SqL K H p xs) (k : ∀ q H', H q = none → Same H H' → H' q = some (.lst (cutV xs lo hi)) → Q (.ref q) H') : uSl K (.ref p) lo hi H Q := g_slL h (n_new k)
theorem g_addL' {a b : Addr} {xs ys : List V} (ha : H a = some (.lst xs)) (hb : H b = some (.lst ys)) (c : xs.length + ys.length ≤ sizeLine) (k : ∀ p H', H p = none → Same H H' → H' p = some (.lst (xs ++ ys)) → Q (.ref p) H') : uAdd K (.ref a) (.ref b) H Q := g_addL ha hb c (n_new k)
theorem i_chain {r r' : R2} (k : ta σ H fun x H1 => tb σ H1 fun y H2 => r x y H2 fun z H3 => ∃ k, z = .bl k ∧ (if k = true then te σ H3 fun w' H4 => r' y w' H4 Q else Q (.bl false) H3)) : tChain r r' ta tb te σ H Q := k
/- two ways that meet again -/
theorem jnE {b : Bool} (R : V → Hp → Prop) (hR : ∀ x H', R x H' → Q x H') (h : ∀ Q' : VK, (∀ x H', R x H' → Q' x H') → if b = true then ta σ H Q' else tb σ H Q') : if b = true then ta σ H Q else tb σ H Q := h Q hR
theorem jnA {b : Bool} (R : V → Hp → Prop) (hR : ∀ x H', R x H' → Q x H') (h : ∀ Q' : VK, (∀ x H', R x H' → Q' x H') → if b = true then tb σ H Q' else Q' (.bl false) H) : if b = true then tb σ H Q else Q (.bl false) H := h Q hR
theorem jnO {b : Bool} (R : V → Hp → Prop) (hR : ∀ x H', R x H' → Q x H') (h : ∀ Q' : VK, (∀ x H', R x H' → Q' x H') → if b = true then Q' (.bl true) H else tb σ H Q') : if b = true then Q (.bl true) H else tb σ H Q := h Q hR
theorem jnS {b : Bool} {a c d : L2.St → Hp → Prop} {e : VK} (R : L2.St → Hp → Prop) (hR : ∀ σ' H', R σ' H' → a σ' H') (h : ∀ N : L2.St → Hp → Prop, (∀ σ' H', R σ' H' → N σ' H') → if b = true then tu ⟨N, e, c, d⟩ σ H else tw ⟨N, e, c, d⟩ σ H) : if b = true then tu ⟨a, e, c, d⟩ σ H else tw ⟨a, e, c, d⟩ σ H := h a hR
/-- and, or of two tests of which the second may be asked in any case -/
theorem and_j {c : Bool} {d : Bool} {Q : Bool → Hp → Prop} (h : c = true → ∀ Q' : Bool → Hp → Prop, (∀ H', Same H H' → Q' d H') → u σ H Q') (k : ∀ H', Same H H' → Q (c && d) H') : if c = true then u σ H Q else Q false H := by
  cases c
  · rw [if_neg (by simp)]; exact k H (Same.refl H)
  · rw [if_pos rfl]; exact h rfl Q k
theorem or_j {c : Bool} {d : Bool} {Q : Bool → Hp → Prop} (h : c = false → ∀ Q' : Bool → Hp → Prop, (∀ H', Same H H' → Q' d H') → u σ H Q') (k : ∀ H', Same H H' → Q (c || d) H') : if c = true then Q true H else u σ H Q := by
  cases c
  · rw [if_neg (by simp)]; exact h rfl Q k
  · rw [if_pos rfl]; exact k H (Same.refl H)
theorem g_pow {m n : Int} (c : 0 ≤ n ∧ n ≤ 1000000 ∧ m.natAbs < 2 ^ 64) (k : Q (.int (m ^ n.toNat)) H) : rI CPow (fun i j => .int (i ^ j.toNat)) (.int m) (.int n) H Q := ⟨m, n, rfl, rfl, c, k⟩
/- fields, tuples as targets -/
theorem i_sfld {f : Str} {a b c : L2.St → Hp → Prop} {d : VK} (k : te σ H fun y H1 => ta σ H1 fun x H2 => gSfld K f x y H2 (a σ)) : sFld K ta te f ⟨a, d, b, c⟩ σ H := k
theorem g_sfld {f : Str} {a C dx : Addr} {fs fs' : List (Str × V)} {Q : Hp → Prop} (h : H a = some (.ins C dx fs)) (c : Cls K C) (n : NoAttr K C f) (l : fs.length < 1000) (e : putF f y fs = fs') (k : Q (upd H a (.ins C dx fs'))) : gSfld K f (.ref a) y H Q := ⟨a, C, dx, fs, rfl, h, c, n, l, by rw [e]; exact k⟩
theorem i_gtup {p : Addr} {xs : List V} {tg : TGs} {Q : L2.St → Hp → Prop} (h : SqT K H p xs) (e : xs.length = n) (k : tg xs σ H Q) : gTup K n tg (.ref p) σ H Q := ⟨p, xs, rfl, h, e, k⟩
theorem i_gcons {tg : TG} {tgs : TGs} {Q : L2.St → Hp → Prop} (k : tg v σ H fun σ' H' => tgs vs σ' H' Q) : gCons tg tgs (v :: vs) σ H Q := ⟨v, vs, rfl, k⟩
theorem i_gnil {Q : L2.St → Hp → Prop} (k : Q σ H) : gNil [] σ H Q := ⟨rfl, k⟩
theorem i_par {a b c : L2.St → Hp → Prop} {d : VK} (k : tr σ H fun vs H1 => ∃ v w, vs = [v, w] ∧ a ((σ.set i (some v)).set j (some w)) H1) : tPar i j tr ⟨a, d, b, c⟩ σ H := k
theorem g_par {P : V → V → Prop} (k : P x y) : ∃ v w, [x, y] = [v, w] ∧ P v w := ⟨x, y, rfl, k⟩
/-- a field of an instance, its list of fields literal -/
theorem fld_hd {f : Str} {fs : List (Str × V)} : List.lookup f ((f, v) :: fs) = some v := by simp [List.lookup]
theorem fld_tl {f g : Str} {fs : List (Str × V)} {o : Option V} (h : (f == g) = false) (k : fs.lookup f = o) : List.lookup f ((g, y) :: fs) = o := by rw [List.lookup, h]; exact k
/-- a list made from a list that stands, item by item, nothing else touched -/
def PvP (H : Hp) (f : Nat → V) (D : Addr) (i : Nat) (acc : List V) (H' : Hp) : Prop := Same H H' ∧ acc = (List.range i).map f
theorem g_itemP {H1 H0 : Hp} {f : Nat → V} {D : Addr} (e : Same H0 H1) (h : H1 D = some (.lst ((List.range i).map f))) (hD : H0 D = none) (hi : i < sizeLine) (hy : y = f i) : gItem (PvP H0 f) D i y H1 :=
  g_item h (by simp) hi ⟨Eg.Same.put e hD, by rw [List.range_succ, List.map_append, hy]; rfl⟩
theorem l_lstP {l : Addr} {xs : List V} {vs : List Nat} (f : Nat → V) (hx : SqL K H l xs) (hw : ∀ x, wipe ((wipe σ vs).set j (some x)) vs = wipe σ vs)
    (hs : ∀ D i x H', xs[i]? = some x → H D = none → Same H H' → H' D = some (.lst ((List.range i).map f)) → te ((wipe σ vs).set j (some x)) H' (gItem (PvP H f) D i))
    (k : ∀ p H', H p = none → Same H H' → H' p = some (.lst ((List.range xs.length).map f)) → Q (.ref p) H') : gLc (Itl K l) (gName j) tYes te vs σ H Q :=
  l_it walk_list (PvP H f) (fun D hD => ⟨Eg.Same.put (Same.refl H) hD, rfl⟩) (fun D i acc H' hD _ _ p => p.1.seq hx)
    (fun D i x acc H1 H' hD hi e l p y => by obtain ⟨e1, e2⟩ := y; subst e1; obtain ⟨p1, p2⟩ := p; subst p2; exact ⟨hw x, hs D i x _ e2 hD p1 e⟩) (fun D acc H' hD e _ p => k D H' hD p.1 (by rw [e, p.2]))
theorem l_rngP {lo : Int} {vs : List Nat} (f : Nat → V) (hw : ∀ x, wipe ((wipe σ vs).set j (some x)) vs = wipe σ vs)
    (hs : ∀ D i H', i < n → H D = none → Same H H' → H' D = some (.lst ((List.range i).map f)) → te ((wipe σ vs).set j (some (.int (lo + i)))) H' (gItem (PvP H f) D i))
    (k : ∀ p H', H p = none → Same H H' → H' p = some (.lst ((List.range n).map f)) → Q (.ref p) H') : gLc (Itr lo n) (gName j) tYes te vs σ H Q :=
  l_it walk_range (PvP H f) (fun D hD => ⟨Eg.Same.put (Same.refl H) hD, rfl⟩) (fun D i acc H' hD _ _ p => trivial)
    (fun D i x acc H1 H' hD hi e l p y => by obtain ⟨e1, e2⟩ := y; subst e1 e2; obtain ⟨p1, p2⟩ := p; subst p2; exact ⟨hw _, hs D i _ hi hD p1 e⟩) (fun D acc H' hD e _ p => k D H' hD p.1 (by rw [e, p.2]))
theorem l_strP {z : Str} {vs : List Nat} (f : Nat → V) (hw : ∀ x, wipe ((wipe σ vs).set j (some x)) vs = wipe σ vs)
    (hs : ∀ D i c H', z.cps.toList[i]? = some c → H D = none → Same H H' → H' D = some (.lst ((List.range i).map f)) → te ((wipe σ vs).set j (some (.str (S [c])))) H' (gItem (PvP H f) D i))
    (k : ∀ p H', H p = none → Same H H' → H' p = some (.lst ((List.range z.cps.toList.length).map f)) → Q (.ref p) H') : gLc (Its z) (gName j) tYes te vs σ H Q :=
  l_it walk_str (PvP H f) (fun D hD => ⟨Eg.Same.put (Same.refl H) hD, rfl⟩) (fun D i acc H' hD _ _ p => trivial)
    (fun D i x acc H1 H' hD hi e l p y => by obtain ⟨e1, c, e2, e3⟩ := y; subst e1 e3; obtain ⟨p1, p2⟩ := p; subst p2; exact ⟨hw _, hs D i c _ (by simpa using e2) hD p1 e⟩) (fun D acc H' hD e _ p => k D H' hD p.1 (by rw [e, p.2]; simp))
theorem l_enumP {l : Addr} {xs : List V} {vs : List Nat} {j' : Nat} (f : Nat → V) (hx : SqL K H l xs) (hw : ∀ x y, wipe (((wipe σ vs).set j (some x)).set j' (some y)) vs = wipe σ vs)
    (hs : ∀ D i x H', xs[i]? = some x → H D = none → Same H H' → H' D = some (.lst ((List.range i).map f)) → te (((wipe σ vs).set j (some (.int (i : Nat)))).set j' (some x)) H' (gItem (PvP H f) D i))
    (k : ∀ p H', H p = none → Same H H' → H' p = some (.lst ((List.range xs.length).map f)) → Q (.ref p) H') : gLc (Ite K l) (gTup K 2 (gCons (gName j) (gCons (gName j') gNil))) tYes te vs σ H Q :=
  l_it walk_enum (PvP H f) (fun D hD => ⟨Eg.Same.put (Same.refl H) hD, rfl⟩) (fun D i acc H' hD _ _ p => p.1.seq hx)
    (fun D i x acc H1 H' hD hi e l p y => by
      obtain ⟨T, x1, y1, e1, e2, e3, e4, e5⟩ := y
      subst e1 e3
      cases e4
      obtain ⟨p1, p2⟩ := p
      subst p2
      have hT : Same H1 (upd H1 T (.tup [.int (i : Nat), y1])) := fun b u q => by rw [upd_ne (ne_of_none q e2)]; exact q
      exact ⟨T, _, rfl, .of upd_same, rfl, _, _, rfl, _, _, rfl, rfl, hw _ _, hs D i y1 _ e5 hD (p1.trans hT) (hT _ _ e)⟩) (fun D acc H' hD e _ p => k D H' hD p.1 (by rw [e, p.2]))
end
/-! the same rules, the written part named: within a comprehension -/
section
variable {X : Cx} {K : PySem.W.Frag} {a b e o : Expr} {es : List Expr} {ta tb te to : TE} {t : TA} {pos apos cpos : Pos} {f name : Str} {T id : String} {r : V → List V → Hp → VK → Prop}
theorem op_uAddK (h : X.K = K) : OpR X (binaryOp .Add) (uAdd K) := by subst h; exact op_uAdd
theorem op_uEqK (h : X.K = K) (hu : X.A.units + 64 < cLine) : OpR X (compareOp .Eq) (uEq K) := by subst h; exact op_uEq hu
theorem op_uNeK (h : X.K = K) (hu : X.A.units + 64 < cLine) : OpR X (compareOp .NotEq) (uNe K) := by subst h; exact op_uNe hu
theorem op_uInK (h : X.K = K) : OpR X (compareOp .In) (uIn K) := by subst h; exact op_uIn
theorem op_uNotInK (h : X.K = K) : OpR X (compareOp .NotIn) (uNotIn K) := by subst h; exact op_uNotIn
theorem call_uLenK (h : X.K = K) : CallR X (.builtin "len") (uLen K) := by subst h; exact call_uLen
theorem call_uListK (h : X.K = K) : CallR X (.type "list") (uList K) := by subst h; exact call_uList
theorem cr_sumK (h : X.K = K) (hc : X.calm = true) : CallR X (.builtin "sum") (rSum K) := by subst h; exact cr_sum hc
theorem sl_uK (h : X.K = K) : SlR X (uSl K) := by subst h; exact sl_u
theorem ix_seqK (h : X.K = K) : IxR X (rIx K) := by subst h; exact ix_seq
theorem pe_fldK (h : X.K = K) (he : PE X e ta) (hb : attributeBase e f X.env (eval e X.env) = eval e X.env) : PE X (.Attribute e f pos) (tFld K ta f) := by subst h; exact pe_fld he hb
theorem pe_bmK (h : X.K = K) (pa : PlainAttrs T) (slot : Slot T name id) (hty : typeOf (.builtin id) = pure (.type "method_descriptor")) (hm : MtR X id r) (ho : PE X o to) (ha : PA X (e :: es) t)
    (hst : starEach (e :: es) X.env = (false, eval e X.env) :: starEach es X.env := by rfl) : True := trivial
theorem pt_uK (h : X.K = K) (ha : PE X o ta) (he : ∀ whole, isTrue o X.env whole = (do let v ← whole; standAt o.pos; holding [v] (truthy v)) := by intro _; rfl) : PT X o (uTru K ta) := by subst h; exact pt_u ha he
end
/-- a written text, by its codes -/
theorem pe_s {X : Cx} {x : Str} {j : Nat} {pos : Pos} (l : List Nat) (e : x = S l) : PE X (.Constant (.str x) j pos) (tC (.str (S l))) := by
  subst e
  exact pe_str
theorem at_ofN {α : Type} {xs : List α} {z : Int} {j : Nat} {v : α} (e : z = (j : Int)) (h : xs[j]? = some v) : atI xs z = some v := by
  subst e
  exact atI_nat h
/-! the built-ins' names -/
theorem bt_len : bootBuiltins "len" = some (.builtin "len") := by decide +kernel
theorem bt_abs : bootBuiltins "abs" = some (.builtin "abs") := by decide +kernel
theorem bt_ord : bootBuiltins "ord" = some (.builtin "ord") := by decide +kernel
theorem bt_chr : bootBuiltins "chr" = some (.builtin "chr") := by decide +kernel
theorem bt_isinstance : bootBuiltins "isinstance" = some (.builtin "isinstance") := by decide +kernel
theorem bt_max : bootBuiltins "max" = some (.builtin "max") := by decide +kernel
theorem bt_min : bootBuiltins "min" = some (.builtin "min") := by decide +kernel
theorem bt_sum : bootBuiltins "sum" = some (.builtin "sum") := by decide +kernel
theorem bt_any : bootBuiltins "any" = some (.builtin "any") := by decide +kernel
theorem bt_all : bootBuiltins "all" = some (.builtin "all") := by decide +kernel
theorem bt_sorted : bootBuiltins "sorted" = some (.builtin "sorted") := by decide +kernel
theorem bt_int : bootBuiltins "int" = some (.type "int") := by decide +kernel
theorem bt_str : bootBuiltins "str" = some (.type "str") := by decide +kernel
theorem bt_list : bootBuiltins "list" = some (.type "list") := by decide +kernel
theorem bt_tuple : bootBuiltins "tuple" = some (.type "tuple") := by decide +kernel
theorem bt_bool : bootBuiltins "bool" = some (.type "bool") := by decide +kernel
theorem bt_dict : bootBuiltins "dict" = some (.type "dict") := by decide +kernel
/-! kinds -/
theorem kb_non (T : String) (h : (T == "bool" || T == "int" || T == "str" || T == "list" || T == "tuple") = true) : kitB "NoneType" T = some false := by
  simp only [Bool.or_eq_true, beq_iff_eq] at h
  rcases h with (((h | h) | h) | h) | h <;> subst h <;> decide +kernel
theorem kb_bool (T : String) (h : (T == "str" || T == "list" || T == "tuple") = true) : kitB "bool" T = some false := by
  simp only [Bool.or_eq_true, beq_iff_eq] at h
  rcases h with (h | h) | h <;> subst h <;> decide +kernel
theorem kb_int (T : String) (h : (T == "bool" || T == "str" || T == "list" || T == "tuple") = true) : kitB "int" T = some false := by
  simp only [Bool.or_eq_true, beq_iff_eq] at h
  rcases h with ((h | h) | h) | h <;> subst h <;> decide +kernel
theorem kb_str (T : String) (h : (T == "bool" || T == "int" || T == "list" || T == "tuple") = true) : kitB "str" T = some false := by
  simp only [Bool.or_eq_true, beq_iff_eq] at h
  rcases h with ((h | h) | h) | h <;> subst h <;> decide +kernel
theorem kb_list (T : String) (h : (T == "bool" || T == "int" || T == "str" || T == "tuple") = true) : kitB "list" T = some false := by
  simp only [Bool.or_eq_true, beq_iff_eq] at h
  rcases h with ((h | h) | h) | h <;> subst h <;> decide +kernel
theorem kb_tuple (T : String) (h : (T == "bool" || T == "int" || T == "str" || T == "list") = true) : kitB "tuple" T = some false := by
  simp only [Bool.or_eq_true, beq_iff_eq] at h
  rcases h with ((h | h) | h) | h <;> subst h <;> decide +kernel
theorem kb_bb : kitB "bool" "bool" = some true := by decide +kernel
theorem kb_ii : kitB "int" "int" = some true := by decide +kernel
theorem kb_ss : kitB "str" "str" = some true := by decide +kernel
theorem kb_ll : kitB "list" "list" = some true := by decide +kernel
theorem kb_tt : kitB "tuple" "tuple" = some true := by decide +kernel
end Eg

set_option Elab.async false
set_option linter.all false
set_option maxRecDepth 100000
set_option maxHeartbeats 4000000
/-! all stands but at these places -/
namespace Eg
open PySem PySem.Spec PyProof.Rows L2 Rl
def Nn (b : Addr) (l : List Addr) : Prop := ∀ a ∈ l, b ≠ a
theorem nn_nil {b : Addr} : Nn b [] := fun _ h => nomatch h
theorem nn_cons {a b : Addr} {l : List Addr} (h : b ≠ a) (k : Nn b l) : Nn b (a :: l) := fun c hc => by
  rcases List.mem_cons.mp hc with e | e
  · rw [e]; exact h
  · exact k c e
def Offs (l : List Addr) (H H' : Hp) : Prop := ∀ b u, Nn b l → H b = some u → H' b = some u
theorem Offs.refl (l : List Addr) (H : Hp) : Offs l H H := fun _ _ _ q => q
theorem Offs.same {l : List Addr} {H H1 H2 : Hp} (h : Offs l H H1) (e : Same H1 H2) : Offs l H H2 := fun b u n q => e b u (h b u n q)
theorem Same.offs {l : List Addr} {H H1 : Hp} (e : Same H H1) : Offs l H H1 := fun b u _ q => e b u q
theorem Offs.trans {l : List Addr} {H H1 H2 : Hp} (h : Offs l H H1) (k : Offs l H1 H2) : Offs l H H2 := fun b u n q => k b u n (h b u n q)
theorem Offs.put {l : List Addr} {H H1 : Hp} {a : Addr} {v : HO} (h : Offs l H H1) (m : a ∈ l) : Offs l H (upd H1 a v) := fun b u n q => by rw [upd_ne (n a m)]; exact h b u n q
theorem Offs.putN {l : List Addr} {H H1 : Hp} {a : Addr} {v : HO} (h : Offs l H H1) (m : H a = none) : Offs l H (upd H1 a v) := fun b u n q => by rw [upd_ne (ne_of_none q m)]; exact h b u n q
theorem Offs.off {l : List Addr} {H H1 H2 : Hp} {a : Addr} (h : Offs l H H1) (m : a ∈ l) (k : Off a H1 H2) : Offs l H H2 := fun b u n q => k b u (n a m) (h b u n q)
theorem Offs.offN {l : List Addr} {H H1 H2 : Hp} {a : Addr} (h : Offs l H H1) (m : H a = none) (k : Off a H1 H2) : Offs l H H2 := fun b u n q => k b u (ne_of_none q m) (h b u n q)
/-- the places changed later are known, or were free -/
theorem Offs.more {l l2 : List Addr} {H H1 H2 : Hp} (h : Offs l H H1) (k : Offs l2 H1 H2) (m : ∀ a ∈ l2, a ∈ l ∨ H a = none) : Offs l H H2 := fun b u n q => k b u (fun a ha => (m a ha).elim (n a) fun z => ne_of_none q z) (h b u n q)
theorem Offs.allN {l2 : List Addr} {H H1 H2 : Hp} (h : Same H H1) (k : Offs l2 H1 H2) (m : ∀ a ∈ l2, H a = none) : Same H H2 := fun b u q => k b u (fun a ha => ne_of_none q (m a ha)) (h b u q)
theorem Off.offs {a : Addr} {H H1 : Hp} (h : Off a H H1) : Offs [a] H H1 := fun b u n q => h b u (n a (by simp)) q
theorem Offs.wk {l l2 : List Addr} {H H1 : Hp} (h : Offs l H H1) (m : ∀ a ∈ l, a ∈ l2 ∨ H a = none) : Offs l2 H H1 := Offs.more (Offs.refl _ _) h m
theorem Offs.free {l : List Addr} {H H1 : Hp} {a : Addr} (h : H1 a = none) (k : Offs l H H1) (n : Nn a l) : H a = none := by
  cases e : H a with
  | none => rfl
  | some u => rw [k a u n e] at h; cases h
/-- in a list of places, or free: word by word -/
theorem mf_nil {P : Addr → Prop} : ∀ a ∈ ([] : List Addr), P a := fun _ h => nomatch h
theorem mf_cons {P : Addr → Prop} {b : Addr} {l : List Addr} (h : P b) (k : ∀ a ∈ l, P a) : ∀ a ∈ b :: l, P a := fun c hc => by
  rcases List.mem_cons.mp hc with e | e
  · rw [e]; exact h
  · exact k c e
theorem Offs.tup {l : List Addr} {K : PySem.W.Frag} {H H1 : Hp} {p : Addr} {xs : List V} (h : Offs l H H1) (n : Nn p l) (t : SqT K H p xs) : SqT K H1 p xs := by
  rcases t with (t | ⟨o, t⟩) | t
  · exact .inl (.inl (h _ _ n t))
  · exact .inl (.inr ⟨o, h _ _ n t⟩)
  · exact .inr t
theorem Same.tup {K : PySem.W.Frag} {H H1 : Hp} {p : Addr} {xs : List V} (h : Same H H1) (t : SqT K H p xs) : SqT K H1 p xs := by
  rcases t with (t | ⟨o, t⟩) | t
  · exact .inl (.inl (h _ _ t))
  · exact .inl (.inr ⟨o, h _ _ t⟩)
  · exact .inr t
theorem same_at {H H' : Hp} {b : Addr} {u : HO} (e : Same H H') (h : H b = some u) : H' b = some u := e b u h
theorem off_at {H H' : Hp} {a b : Addr} {u : HO} (e : Off a H H') (n : b ≠ a) (h : H b = some u) : H' b = some u := e b u n h
theorem offs_at {H H' : Hp} {l : List Addr} {b : Addr} {u : HO} (e : Offs l H H') (n : Nn b l) (h : H b = some u) : H' b = some u := e b u n h
theorem upd_none {H : Hp} {a b : Addr} {v : HO} (h : upd H a v b = none) : H b = none := by
  by_cases e : b = a
  · subst e; rw [upd_same] at h; cases h
  · rw [upd_ne e] at h; exact h
theorem off_free {H H1 : Hp} {a b : Addr} {u : HO} (o : Off a H H1) (ha : H1 a = some u) (h : H1 b = none) : H b = none := by
  cases e : H b with
  | none => rfl
  | some v =>
    by_cases n : b = a
    · subst n; rw [ha] at h; cases h
    · rw [o b v n e] at h; cases h
theorem pf_nil {f : Str} {v : V} : putF f v [] = [(f, v)] := rfl
theorem pf_hd {f : Str} {v x : V} {r : List (Str × V)} : putF f v ((f, x) :: r) = (f, v) :: r := by simp [putF]
theorem pf_tl {f g : Str} {v x : V} {r s : List (Str × V)} (h : decide (g = f) = false) (k : putF f v r = s) : putF f v ((g, x) :: r) = (g, x) :: s := by
  have h' := of_decide_eq_false h
  rw [putF, if_neg h', k]
end Eg

set_option Elab.async false
set_option linter.all false
set_option maxRecDepth 100000
set_option maxHeartbeats 4000000
/-! a dict, key by key, held still -/
namespace Eg
open PySem PySem.Spec PyProof.Rows L2 Rl
theorem i_lock {t : TS} {σ : L2.St} {H : Hp} {a b c : L2.St → Hp → Prop} {r : VK} {d : Addr} {u : HO} (h : H d = some u) (m : Mut (some u))
    (k : ∀ od, t ⟨fun σ' H' => H' d = some (.frz od u) ∧ a σ' (upd H' d u), fun v H' => H' d = some (.frz od u) ∧ r v (upd H' d u), fun σ' H' => H' d = some (.frz od u) ∧ b σ' (upd H' d u), fun σ' H' => H' d = some (.frz od u) ∧ c σ' (upd H' d u)⟩ σ (upd H d (.frz od u))) :
    tLock t ⟨a, r, b, c⟩ σ H := ⟨d, u, h, m, k⟩
def gKeys (x : V) (H : Hp) (R : It → Hp → Prop) : Prop := ∃ d o, x = .ref d ∧ ((∃ kvs, H d = some (.frz o (.dK kvs)) ∧ R (Itk d o kvs) H) ∨ ∃ kvs, H d = some (.frz o (.dT kvs)) ∧ R (Itkt d o kvs) H)
theorem i_keys {td : TE} {σ : L2.St} {H : Hp} {R : It → Hp → Prop} (k : td σ H fun x H1 => gKeys x H1 R) : iKeys td σ H R := k
theorem g_keys {H : Hp} {R : It → Hp → Prop} {d : Addr} {o : Obj} {kvs : List (Key × V)} (h : H d = some (.frz o (.dK kvs))) (k : R (Itk d o kvs) H) : gKeys (.ref d) H R := ⟨d, o, rfl, .inl ⟨kvs, h, k⟩⟩
theorem f_keys {g : TG} {tu : TS} {σ : L2.St} {H : Hp} {l : Addr} {o : Obj} {kvs : List (Key × V)} {a b c : L2.St → Hp → Prop} {d : VK} (Pv : Nat → L2.St → Hp → Prop) (h0 : Pv 0 σ H) (hl : ∀ i σ H, i ≤ kvs.length → Pv i σ H → H l = some (.frz o (.dK kvs)))
    (hs : ∀ i k v σ H, kvs[i]? = some (k, v) → Pv i σ H → g (kV k) σ H fun σ2 H2 => tu ⟨Pv (i + 1), d, a, Pv (i + 1)⟩ σ2 H2) (hd : ∀ σ H, Pv kvs.length σ H → a σ H) : gFor (Itk l o kvs) g tu ⟨a, d, b, c⟩ σ H :=
  f_it walk_keys Pv h0 hl (fun i x σ H H' hi p y => by obtain ⟨e, k, v, e2, e3⟩ := y; subst e e3; exact hs i k v σ _ e2 p) hd
def gMake (C : Addr) (sp : Sp) (E : XK) (vs : List V) (H : Hp) (Q : VK) : Prop := ∀ x dx, H x = none → H dx = none → dx ≠ x → sp (.ref x :: vs) (upd (upd H dx (.own x)) x (.ins C dx [])) (fun v H2 => v = .non ∧ Q (.ref x) H2) E
theorem i_mk {C : Addr} {sp : Sp} {E : XK} {tr : TA} {σ : L2.St} {H : Hp} {Q : VK} (k : tr σ H fun vs H1 => gMake C sp E vs H1 Q) : tMake C sp [] E tr σ H Q := i_make k
theorem pg_tupK {X : Cx} {K : PySem.W.Frag} {es : List Expr} {k : Nat} {t : TGs} {n : Nat} {pos : Pos} (h : X.K = K) (hc : X.calm = true) (h2 : PGs X es t)
    (hn : (assignEach es X.env).length = n := by rfl) (hst : (assignEach es X.env).findIdx? (·.1) = none := by rfl) : PG X (.Tuple es k pos) (gTup K n t) := by
  subst h
  exact pg_tup hc h2 hn hst
theorem iteNT {A B : Prop} (k : B) : if (!true) = true then A else B := k
theorem iteNF {A B : Prop} (k : A) : if (!false) = true then A else B := k
theorem upd_swap {H : Hp} {a b : Addr} {x y : HO} (n : a ≠ b) : upd (upd H a x) b y = upd (upd H b y) a x := by
  funext c
  unfold upd
  by_cases h1 : c = a
  · have : ¬ c = b := fun h2 => n (h1.symm.trans h2)
    rw [if_pos h1, if_neg this, if_pos h1]
  · rw [if_neg h1, if_neg h1]
theorem upd_at {H : Hp} {a : Addr} {o : HO} (h : H a = some o) : upd H a o = H := by
  funext c
  unfold upd
  by_cases e : c = a
  · rw [if_pos e, e, h]
  · rw [if_neg e]
/-! the same rules, the ends written out -/
section
variable {σ : L2.St} {H : Hp} {te to ti : TE} {tr : TA} {g : TG} {a b c : L2.St → Hp → Prop} {r : VK} {i : Nat} {x : V}
theorem j_next (k : a σ H) : tNext ⟨a, r, b, c⟩ σ H := k
theorem j_asg (k : te σ H fun x H1 => g x σ H1 a) : tAsg te g ⟨a, r, b, c⟩ σ H := k
theorem j_drop (k : te σ H fun _ H1 => a σ H1) : tDrop te ⟨a, r, b, c⟩ σ H := k
theorem j_ret (k : te σ H r) : tRet te ⟨a, r, b, c⟩ σ H := k
theorem j_retN (k : r .non H) : tRetN ⟨a, r, b, c⟩ σ H := k
theorem j_aug {ti : TIp} (h : σ[i]? = some (some x)) (k : te σ H fun y H1 => ti x y H1 fun z H2 => a (σ.set i (some z)) H2) : tAug i te ti ⟨a, r, b, c⟩ σ H := ⟨x, h, k⟩
theorem j_augS {tget : V → V → Hp → VK → Prop} {tip : TIp} {tset : TSet} (k : to σ H fun o H1 => ti σ H1 fun i H2 => tget o i H2 fun x H3 => te σ H3 fun y H4 => tip x y H4 fun z H5 => tset o i z H5 fun H6 => a σ H6) : tAugS to ti te tget tip tset ⟨a, r, b, c⟩ σ H := k
end
end Eg

set_option Elab.async false
set_option linter.all false
set_option maxRecDepth 100000
set_option maxHeartbeats 4000000
/-! an own exception class whose base is an own one too: the base's name, its first method -/
namespace Eg
open PySem PySem.Spec PyProof.Rows L2 Rl
section
variable {X : Cx} {W : Addr} {x : Str} {mc : Value} {e : Expr} {es : List Expr} {ta : TA} {p1 p2 pos : Pos}
theorem pe_winit {pl : Sem Bool} (hg : Gl X x) (hm : X.mg x = some (.ref W)) (hgw : PySem.W.specialIn X.K (.ref W) "__getattribute__" = some (some (.builtin "type.__getattribute__"))) (hr : PySem.W.readsIn X.K W mc = true) (vV : PySem.W.findCls X.K (.ref W) mc "__init__" = some (.val (.builtin "ValueError.__init__"))) (ha : PA X (e :: es) ta)
    (hdb : (x == ("__debug__" : Str)) = false := by decide)
    (hc : eval (.Call (.Attribute (.Name x p1) "__init__" p2) (e :: es) [] pos) X.env = (do
      let ov ← eval (.Name x p1) X.env
      standAt p2.atName
      let (f, first) ← holding [ov] (getMethod ov "__init__" pl)
      callWith pos f first (backTo pos (starEach (e :: es) X.env)) (backToKw pos (keywordEach [] X.env))) := by rfl)
    (he : starEach (e :: es) X.env = (false, eval e X.env) :: starEach es X.env := by rfl) (hpl : (backTo pos (starEach es X.env)).any (·.1) = false := by rfl) :
    PE X (.Call (.Attribute (.Name x p1) "__init__" p2) (e :: es) [] pos) (tVeI X.K ta) := by
  refine ⟨fun pins s σ H Q I h => ?_⟩
  refine PySem.W.methodCall_KW (ld_glob I hg hm ?_ hdb) hc
  refine PySem.W.method_cls (I.tok _).kIn hgw (PySem.W.cls_value (I.tok _).kIn hr vV (by decide +kernel) ?_)
  show wpAny _ _ (callWith pos (Value.builtin "ValueError.__init__") [] (backTo pos (starEach (e :: es) X.env)) []) _ _ _
  refine PyProof.Rows.callWith_method1 (thn (ha.run pos pins _ σ H _ (I.tok _) h) fun us s1 ⟨vs, H1, I1, r1, a, C, ws, ev, hl, T, ea, q⟩ => ?_) he hpl
  subst ev
  cases r1 with
  | @cons _ u0 _ ur ra rw' =>
    obtain rfl : u0 = Value.ref a := ra
    have hlen : ur.length ≤ sizeLine := by
      rw [← Paired.length rw', sizeLine_eq]
      omega
    exact oinit_ok T I1 ea hlen fun s' J => ⟨.non, H1, J, rfl, q⟩
end
/-! calls that may raise, the way out told slot by slot -/
section
variable {X : Cx} {G : CXT} {k : Nat} {f C : Addr} {fd : FuncData} {ps : List Str} {sp : Sp} {E : L2.St → XK} {x m : Str} {p pos apos : Pos} {o e : Expr} {es : List Expr} {ta : TE} {t : TA}
theorem run_mkS {pins : List (Addr × Obj)} {σ : L2.St} {H : Hp} {s : Shared} {Q : VK} {us : List Value} {vs : List V}
    (M : Mk X.K C f) (F : FnOk X.prog X.w X.K X.mg X.base G k f fd ps sp) (hr : Room (k + 1) X.A) (hb : Binds X.K fd ps [])
    (hx : PassesAt G X σ (E σ)) (I : Inv X pins σ H s) (r : Vals vs us) (h : gMake C sp (E σ) vs H Q) :
    wpAny (model X.prog X.w) X.A (call (.ref C) us) (EP X pins σ Q) X.xe s := by
  have fresh1 := I.hok.fresh (Nat.le_succ s.heap.objs.size)
  have fresh0 := I.hok.fresh (Nat.le_refl s.heap.objs.size)
  have hq := h (s.heap.objs.size + 1) s.heap.objs.size fresh1 fresh0 (Nat.ne_of_lt (Nat.lt_succ_self _))
  have J := Inv.made (C := C) I
  have rr : Vals (V.ref (s.heap.objs.size + 1) :: vs) (Value.ref (s.heap.objs.size + 1) :: us) := .cons rfl r
  have hl : (Value.ref (s.heap.objs.size + 1) :: us).length = ps.length := by
    rw [← rr.length]
    exact F.len _ _ _ _ hq
  have b := hb _ (Value.ref (s.heap.objs.size + 1) :: us) J.kIn (by rw [List.append_nil]; exact hl)
  rw [List.append_nil] at b
  have run := F.run _ X.stack _ _ ⟨Value.ref (s.heap.objs.size + 1) :: us, []⟩ _ _ _ _ (hr.make C us []) (J.env0.make C us []) b rr hq
  refine wpAny_call (make_map (f := f) I.kIn M.makes M.init (beq_iff_eq.mp M.fn) (codeAny_mono run fun z s' w' => ?_))
  rcases z with e | fl
  · exact hx pins _ _ e s' J w'
  · cases fl with
    | ret u =>
      obtain ⟨v, H', I3, rv, ev, q3⟩ := J.after w'
      subst ev
      exact ⟨rv, ⟨V.ref (s.heap.objs.size + 1), H', I3, rfl, q3⟩⟩
    | next => exact w'.elim
    | brk => exact w'.elim
    | cont => exact w'.elim
def tMakeS (C : Addr) (sp : Sp) (E : L2.St → XK) (t : TA) : TE := fun σ H Q => t σ H fun vs H1 => gMake C sp (E σ) vs H1 Q
theorem pe_makeS (M : Mk X.K C f) (F : FnOk X.prog X.w X.K X.mg X.base G k f fd ps sp) (hr : Room (k + 1) X.A) (hg : Gl X x) (hm : X.mg x = some (.ref C)) (hb : Binds X.K fd ps [])
    (hx : ∀ σ, PassesAt G X σ (E σ)) (ha : PA X (e :: es) t) (hdb : (x == ("__debug__" : Str)) = false := by decide)
    (he : starEach (e :: es) X.env = (false, eval e X.env) :: starEach es X.env := by rfl)
    (hpl : (backTo pos (starEach es X.env)).any (·.1) = false := by rfl) : PE X (.Call (.Name x p) (e :: es) [] pos) (tMakeS C sp E t) := by
  constructor
  intro pins s σ H Q I h
  have arg := fun s0 I0 => ha.run pos pins s0 σ H (fun vs H1 => gMake C sp (E σ) vs H1 Q) I0 h
  refine wpAny_Call_Name_kw (ld_glob I hg hm (PySem.W.callWith_K (h₀ := X.base) I.ok.mod.kin M.kp (thn (arg s I) fun us s1 z => ?_) he hpl) hdb)
  obtain ⟨vs, H1, I1, r, q⟩ := z
  exact ⟨I1.kIn, run_mkS M F hr hb (hx σ) I1 r q⟩
end
/-! an own exception class with one field -/
structure Iex (P : Program) (w : World) (K : PySem.W.Frag) (mg : Str → Option Value) (base : Heap) (k : Nat) (x : Str) (C : Addr) (ps : List Str) (sp : Sp) : Prop where
  ex : ∃ (f : Addr) (fd : FuncData), FnOk P w K mg base CX0 k f fd ps sp ∧ PySem.W.findIn K (.ref C) "__init__" = some (some (.ref f)) ∧ PySem.W.typeIn K (.ref f) = some (.type "function") ∧ mg x = some (.ref C) ∧ Binds K fd ps []
  ox : OexC K C
section
variable {X : Cx} {k : Nat} {x : Str} {ps : List Str} {sp : Sp} {p pos pos' : Pos} {e : Expr} {es : List Expr} {t : TA} {C : Addr}
theorem pmk_iex (D : Iex X.prog X.w X.K X.mg X.base k x C ps sp) (hr : Room (k + 1) X.A) (hg : Gl X x) (ha : PA X (e :: es) t) (hdb : (x == ("__debug__" : Str)) = false := by decide)
    (he : starEach (e :: es) X.env = (false, eval e X.env) :: starEach es X.env := by rfl)
    (hpl : (backTo pos (starEach es X.env)).any (·.1) = false := by rfl) : PMk X (.Call (.Name x p) (e :: es) [] pos) (tMkO C sp [] t) := by
  obtain ⟨f, fd, F, iC, tI, hm, hb⟩ := D.ex
  exact pmk_oex D.ox iC tI F hr hb .nil pass0 hg hm ha hdb he hpl
def tRaise (W : WX) (t : L2.St → Hp → XK → Prop) : TS := fun _ σ H => t σ H fun cls d H' => W cls d σ H'
theorem ps_rs {W : WX} {e : Expr} {t : L2.St → Hp → XK → Prop} (tk : Takes X W) (he : PMk X e t) (hc : X.calm = true) : PS X (.Raise (some e) none pos) (tRaise W t) := ps_raise hc tk he
def gRaise (C : Addr) (sp : Sp) (vs : List V) (H : Hp) (Q : XK) : Prop := vs.length ≤ 1000 ∧ ∀ a, H a = none → sp (.ref a :: vs) (upd H a (exo a C none)) (fun v H2 => v = .non ∧ ∃ (d : Addr) (fs : List (Str × V)), H2 a = some (exo a C (some d)) ∧ H2 d = some (exd d fs) ∧ H d = none ∧ Q (.ref C) (some d) (upd (del H2 a) d (.xd fs))) fun _ _ _ => False
theorem i_raise {W : WX} {D : Ends} {σ : L2.St} {H : Hp} (h : t σ H fun vs H1 => gRaise C sp vs H1 fun cls d H' => W cls d σ H') : tRaise W (tMkO C sp [] t) D σ H := by
  unfold tRaise tMkO
  simp only [List.append_nil]
  exact h
def tTryAs (K : PySem.W.Frag) (c : Value) (i : Nat) (tb : WX → TS) (ts : Addr → Value → Option Addr → TS) (Wout : WX) : TS := fun D σ H => tb (wAs K c i ts Wout D) D σ H
theorem i_try {K : PySem.W.Frag} {c : Value} {i : Nat} {tb : WX → TS} {ts : Addr → Value → Option Addr → TS} {Wout : WX} {D : Ends} {σ : L2.St} {H : Hp} (h : tb (wAs K c i ts Wout D) D σ H) : tTryAs K c i tb ts Wout D σ H := h
theorem g_wAs {K : PySem.W.Frag} {cls c : Value} {i : Nat} {ts : Addr → Value → Option Addr → TS} {Wout : WX} {D : Ends} {d : Option Addr} {σ : L2.St} {H : Hp} (e : PySem.W.exmOne K cls c = some true)
    (k : ∀ a, H a = none → ts a cls d { nx := fun σ' H' => D.nx (σ'.set i none) H', rt := D.rt, bk := fun σ' H' => D.bk (σ'.set i none) H', ct := fun σ' H' => D.ct (σ'.set i none) H' } (σ.set i (some (.ref a))) H) : wAs K c i ts Wout D cls d σ H := ⟨true, e, fun _ => k, fun z => Bool.noConfusion z⟩
theorem j_makeS {E : L2.St → XK} {σ : L2.St} {H : Hp} {Q : VK} (h : t σ H fun vs H1 => gMake C sp (E σ) vs H1 Q) : tMakeS C sp E t σ H Q := h
def gXf (a : Addr) (cls : Value) (d : Option Addr) (C : Addr) (f : Str) (x : V) (H1 : Hp) (Q : VK) : Prop := x = .ref a ∧ cls = .ref C ∧ ∃ (dd : Addr) (fs : List (Str × V)) (v : V), d = some dd ∧ H1 dd = some (.xd fs) ∧ fs.lookup f = some v ∧ Q v H1
theorem i_xf {a : Addr} {cls : Value} {d : Option Addr} {f : Str} {te : TE} {σ : L2.St} {H : Hp} {Q : VK} (h : te σ H fun x H1 => gXf a cls d C f x H1 Q) : tXf a cls d C f te σ H Q := h
theorem g_xf {a d : Addr} {f : Str} {v : V} {fs : List (Str × V)} {H : Hp} {Q : VK} (h : H d = some (.xd fs)) (l : fs.lookup f = some v) (k : Q v H) : gXf a (.ref C) (some d) C f (.ref a) H Q := ⟨rfl, rfl, d, fs, v, rfl, h, l, k⟩
end
/-- the promise of an __init__ that calls its base's and sets one field -/
def sp_xi (K : PySem.W.Frag) (C : Addr) (f : Str) : Sp := fun vs H Q _ => ∃ (a : Addr) (v : V), vs = [.ref a, v] ∧ H a = some (exo a C none) ∧ ∀ dx, H dx = none → dx ≠ a → Q .non (upd (upd H dx (exd dx [(f, v)])) a (exo a C (some dx)))
theorem c_raise {K : PySem.W.Frag} {C : Addr} {f : Str} {v : V} {H : Hp} {Q : XK} (k : ∀ d H', H d = none → Same H H' → H' d = some (.xd [(f, v)]) → Q (.ref C) (some d) H') : gRaise C (sp_xi K C f) [v] H Q := by
  refine ⟨by simp, fun a ha => ⟨a, v, rfl, upd_same, fun dx hd hn => ⟨rfl, dx, [(f, v)], upd_same, by rw [upd_ne hn, upd_same], upd_none hd, ?_⟩⟩⟩
  refine k dx _ (upd_none hd) (fun b u q => ?_) upd_same
  have hb := ne_of_none q ha
  have hb2 := ne_of_none q (upd_none hd)
  rw [upd_ne hb2, del_ne hb, upd_ne hb, upd_ne hb2, upd_ne hb]
  exact q
/-! defs that may raise -/
structure DfnX (P : Program) (w : World) (K : PySem.W.Frag) (mg : Str → Option Value) (base : Heap) (k : Nat) (x : Str) (ps : List Str) (sp : Sp) : Prop where
  ex : ∃ (f : Addr) (fd : FuncData), FnOk P w K mg base (L2.CX P w) k f fd ps sp ∧ mg x = some (.ref f) ∧ PySem.W.keepIn K (.ref f) = true ∧ Binds K fd ps []
structure IniX (P : Program) (w : World) (K : PySem.W.Frag) (mg : Str → Option Value) (base : Heap) (k : Nat) (x : Str) (C : Addr) (ps : List Str) (sp : Sp) : Prop where
  ex : ∃ (f : Addr) (fd : FuncData), FnOk P w K mg base (L2.CX P w) k f fd ps sp ∧ Mk K C f ∧ mg x = some (.ref C) ∧ Binds K fd ps []
section
variable {X : Cx} {k : Nat} {x : Str} {ps : List Str} {sp : Sp} {p pos : Pos} {e : Expr} {es : List Expr} {t : TA} {C : Addr} {W : WX}
theorem pe_dfnS (D : DfnX X.prog X.w X.K X.mg X.base k x ps sp) (hr : Room k X.A) (hg : Gl X x) (tk : Takes X W) (ha : PA X (e :: es) t) (hdb : (x == ("__debug__" : Str)) = false := by decide)
    (he : starEach (e :: es) X.env = (false, eval e X.env) :: starEach es X.env := by rfl)
    (hpl : (backTo pos (starEach es X.env)).any (·.1) = false := by rfl) : PE X (.Call (.Name x p) (e :: es) [] pos) (tCallS sp (WE W) t) := by
  obtain ⟨f, fd, F, hm, hk, hb⟩ := D.ex
  exact pe_callS F hr hg hm hk hb (fun σ => passAt tk σ) ha hdb he hpl
theorem pe_iniS (D : IniX X.prog X.w X.K X.mg X.base k x C ps sp) (hr : Room (k + 1) X.A) (hg : Gl X x) (tk : Takes X W) (ha : PA X (e :: es) t) (hdb : (x == ("__debug__" : Str)) = false := by decide)
    (he : starEach (e :: es) X.env = (false, eval e X.env) :: starEach es X.env := by rfl)
    (hpl : (backTo pos (starEach es X.env)).any (·.1) = false := by rfl) : PE X (.Call (.Name x p) (e :: es) [] pos) (tMakeS C sp (WE W) t) := by
  obtain ⟨f, fd, F, M, hm, hb⟩ := D.ex
  exact pe_makeS M F hr hg hm hb (fun σ => passAt tk σ) ha hdb he hpl
end
/-- the base's __init__ called, a field set: what an own exception's __init__ reads -/
def gVe (K : PySem.W.Frag) (vs : List V) (H1 : Hp) (Q : VK) : Prop := ∃ (a C : Addr) (ws : List V), vs = .ref a :: ws ∧ ws.length ≤ 1000 ∧ OexC K C ∧ H1 a = some (exo a C none) ∧ Q .non H1
theorem i_ve {K : PySem.W.Frag} {ta : TA} {σ : L2.St} {H : Hp} {Q : VK} (k : ta σ H fun vs H1 => gVe K vs H1 Q) : tVeI K ta σ H Q := k
theorem g_ve {K : PySem.W.Frag} {a C : Addr} {ws : List V} {H : Hp} {Q : VK} (h : H a = some (exo a C none)) (o : OexC K C) (l : ws.length ≤ 1000) (k : Q .non H) : gVe K (.ref a :: ws) H Q := ⟨a, C, ws, rfl, l, o, h, k⟩
def gOst (K : PySem.W.Frag) (f : Str) (y x : V) (H2 : Hp) (Q : Hp → Prop) : Prop := ∃ a C : Addr, x = .ref a ∧ OexC K C ∧ PySem.W.findIn K (.ref C) f = some none ∧
  ((H2 a = some (exo a C none) ∧ ∀ dx, H2 dx = none → dx ≠ a → Q (upd (upd H2 dx (exd dx [(f, y)])) a (exo a C (some dx)))) ∨
    ∃ (dx : Addr) (fs : List (Str × V)), H2 a = some (exo a C (some dx)) ∧ H2 dx = some (exd dx fs) ∧ fs.length ≤ 900 ∧ Q (upd H2 dx (exd dx ((f, y) :: fs))))
theorem i_ost {K : PySem.W.Frag} {f : Str} {to te : TE} {a b c : L2.St → Hp → Prop} {r : VK} {σ : L2.St} {H : Hp} (k : te σ H fun y H1 => to σ H1 fun x H2 => gOst K f y x H2 (a σ)) : tOst K f to te ⟨a, r, b, c⟩ σ H := k
theorem g_ost {K : PySem.W.Frag} {f : Str} {y : V} {a C : Addr} {H : Hp} {Q : Hp → Prop} (h : H a = some (exo a C none)) (o : OexC K C) (n : PySem.W.findIn K (.ref C) f = some none) (k : ∀ dx, H dx = none → dx ≠ a → Q (upd (upd H dx (exd dx [(f, y)])) a (exo a C (some dx)))) : gOst K f y (.ref a) H Q := ⟨a, C, rfl, o, n, .inl ⟨h, k⟩⟩
theorem i_unl {K : PySem.W.Frag} {n : Nat} {tg : TGs} {p : Addr} {xs : List V} {σ : L2.St} {H : Hp} {Q : L2.St → Hp → Prop} (h : SqL K H p xs) (e : xs.length = n) (k : tg xs σ H Q) : gUnl K n tg (.ref p) σ H Q := ⟨p, xs, rfl, h, e, k⟩
end Eg

set_option Elab.async false
set_option linter.all false
set_option maxRecDepth 100000
set_option maxHeartbeats 4000000
/-! ranges as values, backwards; wide numbers; lists compared -/
namespace Eg
open PySem PySem.Spec PyProof.Rows L2 Rl SX
section
variable {X : Cx}
def uRng : List V → Hp → VK → Prop := fun xs H Q => ∃ n : Int, xs = [.int n] ∧ ∀ p, H p = none → Q (.ref p) (upd H p (.rng 0 n))
theorem call_uRng : CallR X (.type "range") uRng := by
  intro pins s σ H vs us Q I r ⟨n, e, q⟩
  subst e
  cases r with
  | cons r rr =>
    cases rr
    obtain ⟨t, rfl⟩ := r
    refine call_range_1 ⟨.ref s.heap.objs.size, upd H s.heap.objs.size (.rng 0 n), I.laid (t' := s.toks + 1 + 1) (fun _ _ z => Heap.get?_push_of_some _ z) (Nat.le_refl _) ?_, rfl, q _ (I.hok.fresh (Nat.le_refl _))⟩
    exact ⟨s.toks, t, s.toks + 1, Heap.get?_push_size _ rfl⟩
/-- a range object, walked -/
def iRng0 (te : TE) : TI := fun σ H R => te σ H fun x H1 => ∃ (p : Addr) (lo hi : Int), x = .ref p ∧ H1 p = some (.rng lo hi) ∧ (-(2 ^ 62) ≤ lo ∧ lo < 2 ^ 62 ∧ -(2 ^ 62) ≤ hi ∧ hi < 2 ^ 62) ∧ R (Itr lo (hi - lo).toNat) H1
theorem pi_rng {tg e : Expr} {te : TE} (he : PE X e te) : PI X tg e (iRng0 te) := by
  refine ⟨fun pins s σ H R I h => ?_⟩
  refine thn (he.run pins s σ H _ I h) fun v s1 ⟨x, H1, I1, r1, q1⟩ => ?_
  obtain ⟨p, lo, hi, e1, hp, ⟨h1, h2, h3, h4⟩, q⟩ := q1
  subst e1
  cases r1
  obtain ⟨t1, t2, t3, ho⟩ := I1.hok p _ hp
  refine wpAny_pyIter_range (t := t1) (u := t2) (v := t3) ho (small_one h1 h2 h3 h4) ?_
  refine pi_one (tk := s1.toks) I1 { cls := .type "range_iterator", data := .fields #[rawInt lo, rawInt (Builtin.Range.rangeSize lo hi 1), rawInt 1] } (turn_range (P := X.prog) (w := X.w) (K := X.K) (tg := tg) s1.heap.objs.size lo (hi - lo).toNat) ?_ q
  · have a1 : lo + ((0 : Nat) : Int) * 1 = lo := by simp
    have a2 : (((hi - lo).toNat : Nat) : Int) - ((0 : Nat) : Int) = Builtin.Range.rangeSize lo hi 1 := by rw [rangeSize_one]; split <;> omega
    show IsRangeIter _ _ (lo + ((0 : Nat) : Int) * 1) ((((hi - lo).toNat : Nat) : Int) - ((0 : Nat) : Int)) 1
    rw [a1, a2]
    exact Heap.get?_push_size _ rfl
end
section
variable {K : PySem.W.Frag} {σ : L2.St} {H : Hp} {te : TE} {Q : VK} {g : TG} {n : Int} {R : It → Hp → Prop}
theorem g_uRng (k : ∀ p H', H p = none → Same H H' → H' p = some (.rng 0 n) → Q (.ref p) H') : uRng [.int n] H Q := ⟨n, rfl, n_new k⟩
def gRng0 (x : V) (H1 : Hp) (R : It → Hp → Prop) : Prop := ∃ (p : Addr) (lo hi : Int), x = .ref p ∧ H1 p = some (.rng lo hi) ∧ (-(2 ^ 62) ≤ lo ∧ lo < 2 ^ 62 ∧ -(2 ^ 62) ≤ hi ∧ hi < 2 ^ 62) ∧ R (Itr lo (hi - lo).toNat) H1
theorem i_rng0 (k : te σ H fun x H1 => gRng0 x H1 R) : iRng0 te σ H R := k
theorem g_rng0 {p : Addr} {lo hi : Int} (h : H p = some (.rng lo hi)) (c : -(2 ^ 62) ≤ lo ∧ lo < 2 ^ 62 ∧ -(2 ^ 62) ≤ hi ∧ hi < 2 ^ 62) (k : R (Itr lo (hi - lo).toNat) H) : gRng0 (.ref p) H R := ⟨p, lo, hi, rfl, h, c, k⟩
def gRevR (x : V) (H1 : Hp) (R : It → Hp → Prop) : Prop := ∃ n : Int, x = .int n ∧ -(2 ^ 62) ≤ (0 : Int) ∧ (0 : Int) < 2 ^ 62 ∧ -(2 ^ 62) ≤ n ∧ n < 2 ^ 62 ∧ R (Itc (0 + (((n - 0).toNat : Nat) : Int) - 1) (-1) (n - 0).toNat) H1
theorem i_revR (k : te σ H fun x H1 => gRevR x H1 R) : iRevR (tRg1 te) σ H R := k
theorem g_revR {m : Nat} (c : m < 2 ^ 62) (k : R (Itc ((m : Int) - 1) (-1) m) H) : gRevR (.int (m : Int)) H R := by
  refine ⟨m, rfl, by omega, by omega, by omega, by omega, ?_⟩
  rw [Int.sub_zero, Int.toNat_natCast, Int.zero_add]
  exact k
/-- a for over a range from its end -/
theorem f_rngC {m : Nat} {tu : TS} {a b c : L2.St → Hp → Prop} {d : VK} (Pv : Nat → L2.St → Hp → Prop) (h0 : Pv 0 σ H)
    (hs : ∀ i σ H, i < m → Pv i σ H → g (.int ((m - 1 - i : Nat) : Int)) σ H fun σ2 H2 => tu ⟨Pv (i + 1), d, a, Pv (i + 1)⟩ σ2 H2) (hd : ∀ σ H, Pv m σ H → a σ H) : gFor (Itc ((m : Int) - 1) (-1) m) g tu ⟨a, d, b, c⟩ σ H :=
  f_it walk_rangeC Pv h0 (fun _ _ _ _ _ => trivial) (fun i x σ H H' hi p y => by
    obtain ⟨e, e2⟩ := y
    subst e e2
    have z : (m : Int) - 1 + (i : Nat) * (-1) = ((m - 1 - i : Nat) : Int) := by omega
    show g (.int ((m : Int) - 1 + (i : Nat) * (-1))) σ _ _
    rw [z]
    exact hs i σ _ hi p) hd
theorem bt_range : bootBuiltins "range" = some (.type "range") := by decide +kernel
/-- products of wide numbers -/
theorem mul_nb {x y : Int} {m n : Nat} (hx : x.natAbs < 2 ^ m) (hy : y.natAbs < 2 ^ n) (h : m + n < 1000000) : CMulW x y := by
  unfold CMulW
  have z : ∀ {v : Int} {k : Nat}, v.natAbs < 2 ^ k → v.natAbs.log2 ≤ k := fun {v k} hv => by
    by_cases h0 : v.natAbs = 0
    · rw [h0]; simp
    · exact Nat.le_of_lt ((Nat.log2_lt h0).mpr hv)
  have := z hx
  have := z hy
  omega
theorem log_nb {v : Int} {k : Nat} (hv : v.natAbs < 2 ^ k) : v.natAbs.log2 ≤ k := by
  by_cases h0 : v.natAbs = 0
  · rw [h0]; simp
  · exact Nat.le_of_lt ((Nat.log2_lt h0).mpr hv)
theorem g_divW {x y : Int} {k : Nat} (h0 : 0 < y) (hy : y.natAbs < 2 ^ k) (hk : k < 9000) (q : Q (.int (x / y)) H) : uDiv (.int x) (.int y) H Q := ⟨x, y, rfl, rfl, .inr ⟨h0, Nat.lt_of_le_of_lt (log_nb hy) hk⟩, q⟩
theorem g_mulW {x y : Int} (c : CMulW x y) (k : Q (.int (x * y)) H) : uMul (.int x) (.int y) H Q := ⟨x, y, rfl, rfl, .inr c, k⟩
end
end Eg

set_option Elab.async false
set_option linter.all false
set_option maxRecDepth 100000
set_option maxHeartbeats 4000000
/-! two lists walked together -/
namespace Eg
open PySem PySem.Spec PyProof.Rows L2 Rl SX
section
variable {K : PySem.W.Frag} {σ : L2.St} {H : Hp} {tr : TA} {g : TG} {R : It → Hp → Prop} {tu : TS} {a b c : L2.St → Hp → Prop} {d : VK}
def gZip (K : PySem.W.Frag) (vs : List V) (H : Hp) (R : It → Hp → Prop) : Prop := ∃ a b xs ys, vs = [.ref a, .ref b] ∧ SqL K H a xs ∧ SqL K H b ys ∧ R (Itz K a b) H
theorem i_zip (k : tr σ H fun vs H1 => gZip K vs H1 R) : iZip K tr σ H R := k
theorem g_zip {p q : Addr} {xs ys : List V} (h1 : SqL K H p xs) (h2 : SqL K H q ys) (k : R (Itz K p q) H) : gZip K [.ref p, .ref q] H R := ⟨p, q, xs, ys, rfl, h1, h2, k⟩
theorem f_zip {p q : Addr} {xs ys : List V} (hl : xs.length = ys.length) (Pv : Nat → L2.St → Hp → Prop) (h0 : Pv 0 σ H) (hk : ∀ i σ H, i ≤ xs.length → Pv i σ H → SqL K H p xs ∧ SqL K H q ys)
    (hs : ∀ i x y σ H T H', xs[i]? = some x → ys[i]? = some y → Pv i σ H → H T = none → Same H H' → H' T = some (.tup [x, y]) → g (.ref T) σ H' fun σ2 H2 => tu ⟨Pv (i + 1), d, a, Pv (i + 1)⟩ σ2 H2) (hd : ∀ σ H, Pv xs.length σ H → a σ H) : gFor (Itz K p q) g tu ⟨a, d, b, c⟩ σ H :=
  f_it (walk_zip (n := xs.length) (by omega)) Pv h0 hk (fun i v σ H H' hi p y => by
    obtain ⟨T, x, y, e1, e2, e3, e4, e5⟩ := y
    subst e1 e3
    exact hs i x y σ H T _ e4 e5 p e2 (fun b u e => by rw [upd_ne (ne_of_none e e2)]; exact e) upd_same) hd
end
end Eg

set_option Elab.async false
set_option linter.all false
set_option maxRecDepth 100000
set_option maxHeartbeats 4000000
/-! methods that may raise; .get of a dict at the module's top -/
namespace Eg
open PySem PySem.Spec PyProof.Rows L2 Rl SX
structure MthX (P : Program) (w : World) (K : PySem.W.Frag) (mg : Str → Option Value) (base : Heap) (k : Nat) (C : Addr) (x : Str) (ps : List Str) (sp : Sp) : Prop where
  ex : ∃ (f : Addr) (fd : FuncData), FnOk P w K mg base (L2.CX P w) k f fd ps sp ∧ Meth K C x f ∧ Binds K fd ps []
  cl : Cls K C
def tMethS (C : Addr) (m : Str) (sp : Sp) (E : L2.St → XK) (ta : TE) (t : TA) : TE := fun σ H Q => ta σ H fun x H1 => ∃ a dx fs, x = .ref a ∧ H1 a = some (.ins C dx fs) ∧ fs.lookup m = none ∧ t σ H1 fun vs H2 => sp (x :: vs) H2 Q (E σ)
section
variable {X : Cx} {k : Nat} {x : Str} {ps : List Str} {sp : Sp} {p pos apos : Pos} {o e f : Expr} {es : List Expr} {t : TA} {ta td ty tx : TE} {C : Addr} {W : WX} {m : Str}
theorem pe_mthS (D : MthX X.prog X.w X.K X.mg X.base k C m ps sp) (hr : Room k X.A) {pl : Sem Bool} (tk : Takes X W) (ho : PE X o ta) (ha : PA X (e :: es) t)
    (hst : starEach (e :: es) X.env = (false, eval e X.env) :: starEach es X.env := by rfl) (hpl : (backTo pos (starEach es X.env)).any (·.1) = false := by rfl)
    (ht : eval (.Call (.Attribute o m apos) (e :: es) [] pos) X.env = (do
      let ov ← eval o X.env
      standAt apos.atName
      let (f, first) ← holding [ov] (getMethod ov m pl)
      callWith pos f first (backTo pos (starEach (e :: es) X.env)) (backToKw pos (keywordEach [] X.env))) := by rfl) :
    PE X (.Call (.Attribute o m apos) (e :: es) [] pos) (tMethS C m sp (WE W) ta t) := by
  obtain ⟨g, fd, F, hm, hb⟩ := D.ex
  refine ⟨fun pins s σ H Q I h => ?_⟩
  refine PySem.W.methodCall_KW (pl := pl) (thn (ho.run pins s σ H _ I h) fun u s1 ⟨y, H1, I1, ry, a, dx, fs, ey, ea, l, q⟩ => ?_) ht
  subst ey
  cases ry
  refine getmeth_ok I1 ea D.cl hm l ?_
  refine PySem.W.callWith_K (first := [.ref a]) (h₀ := X.base) I.ok.mod.kin hm.kp (thn (ha.run pos pins s1 σ H1 _ I1 q) fun us s2 ⟨vs, H2, I2, r, q2⟩ => ⟨I2.kIn, ?_⟩) hst hpl
  exact run_fnS (us := .ref a :: us) (vs := .ref a :: vs) F hr hb ((fun σ => passAt tk σ) σ) I2 (.cons rfl r) q2
/-- d.get(x, y) of a dict at the module's top that has no such key -/
def tKGet2 (K : PySem.W.Frag) (w : World) (td ty tx : TE) : TE := fun σ H Q => td σ H fun x H1 => ∃ a z, x = .ref a ∧ KMiss K w a z ∧ ty σ H1 fun y H2 => y = .str z ∧ tx σ H2 Q
theorem pe_kget2 (ho : PE X o td) (he : PE X e ty) (hf : PE X f tx) (m : M2 X o "get" apos e f pos) : PE X (.Call (.Attribute o "get" apos) [e, f] [] pos) (tKGet2 X.K X.w td ty tx) := by
  refine ⟨fun pins s σ H Q I h => ?_⟩
  refine wpAny_Call_method m.base m.few m.line PySem.F.plainAttrs_dict PySem.F.slot_dict_get PySem.F.type_dict_get (thn (ho.run pins s σ H _ I h) fun u s1 ⟨x, H1, I1, rx, a, z, ex, miss, q1⟩ => ?_)
  subst ex
  cases rx
  obtain ⟨es, n, hl, hk, low, hn⟩ := miss
  have hm := PySem.W.mapOf_K (prog := X.prog) (w := X.w) I1.kIn hl hk
  refine ⟨hm.typeIs, ?_, ?_⟩
  · intro b e
    cases e
    exact ⟨_, I1.kIn _ _ hl, rfl⟩
  rw [m.trees]
  refine Calls.callWith_builtin rfl (Calls.evalArgs_plain (Calls.spliced_cons (thn (he.run pins s1 σ H1 _ I1 q1) fun iv s2 ⟨y, H2, I2, ry, ey, q2⟩ =>
    Calls.spliced_cons (thn (hf.run pins s2 σ H2 _ I2 q2) fun fv s3 ⟨v, H3, I3, rv, q3⟩ => Calls.spliced_nil ?_))))
  subst ey
  obtain ⟨t, rfl⟩ := ry
  have hm3 := PySem.W.mapOf_K (prog := X.prog) (w := X.w) I3.kIn hl hk
  refine call_meetsIn PySem.F.slot_dict_get hm3.typeIs PySem.F.entry_dict_get (PySem.F.args_dict_get_3 _ _ _) (meets_dict_get_default (strKind X.prog X.w) a (strKind_is X.prog X.w z t) ?_ fv) ?_
  · exact low
  · refine ⟨_, hm3, ?_⟩
    rw [PySem.W.find_K hl hn]
    exact ⟨v, H3, I3.tok _, rv, q3⟩
end
section
variable {K : PySem.W.Frag} {σ : L2.St} {H : Hp} {te ty tx : TE} {tr : TA} {Q : VK} {sp : Sp} {E : L2.St → XK} {C : Addr} {m : Str} {w : World}
theorem i_callS (k : tr σ H fun vs H1 => sp vs H1 Q (E σ)) : tCallS sp E tr σ H Q := k
def gMethS (C : Addr) (m : Str) (sp : Sp) (E : L2.St → XK) (t : TA) (x : V) (σ : L2.St) (H : Hp) (Q : VK) : Prop := ∃ a dx fs, x = .ref a ∧ H a = some (.ins C dx fs) ∧ fs.lookup m = none ∧ t σ H fun vs H2 => sp (x :: vs) H2 Q (E σ)
theorem i_methS (k : te σ H fun x H1 => gMethS C m sp E tr x σ H1 Q) : tMethS C m sp E te tr σ H Q := k
theorem g_methS {dx a : Addr} {fs : List (Str × V)} (h : H a = some (.ins C dx fs)) (l : fs.lookup m = none) (k : tr σ H fun vs H2 => sp (.ref a :: vs) H2 Q (E σ)) : gMethS C m sp E tr (.ref a) σ H Q := ⟨a, dx, fs, rfl, h, l, k⟩
/-- a text so often -/
theorem fold_rep (a : List Nat) : ∀ (m : Nat) (acc : Array Nat), (List.replicate m a.toArray).foldl (· ++ ·) acc = acc ++ ((List.replicate m a).flatten).toArray
  | 0, acc => by simp
  | m + 1, acc => by
    rw [List.replicate_succ, List.foldl_cons, fold_rep a m, List.replicate_succ, List.flatten_cons]
    simp
def uMulS : R2 := fun x y H Q => ∃ (a : List Nat) (n : Nat), x = .str (S a) ∧ y = .int (n : Int) ∧ 2 ≤ n ∧ n ≤ 1000 ∧ a ≠ [] ∧ a.length ≤ 10000 ∧ Q (.str (S ((List.replicate n a).flatten))) H
theorem op_mulS {X : Cx} : OpR X (binaryOp .Mult) uMulS := by
  intro pins s σ H x y v u Q I rx ry ⟨a, n, e1, e2, h2, hn, ha, hl, q⟩
  subst e1 e2
  obtain ⟨t, rfl⟩ := rx
  obtain ⟨t', rfl⟩ := ry
  have hlen : (S a).length = a.length := by simp [S, Str.length]
  have hpos : 0 < a.length := List.length_pos_iff.mpr ha
  have hmul : a.length * n ≤ 10000 * 1000 := Nat.mul_le_mul hl hn
  have z1 : ((n : Int) == 1) = false := by
    rw [beq_eq_false_iff_ne]
    omega
  have z2 : ((S a).length == 0) = false := by
    rw [hlen, beq_eq_false_iff_ne]
    omega
  have hne : ((n : Int) == 1 || (S a).length == 0) = false := by rw [z1, z2]; rfl
  have hN : ((n : Int)).toNat = n := Int.toNat_natCast n
  refine P.mul_str (by rw [decide_eq_false (by omega), decide_eq_false (by omega)]; rfl) (fun _ _ => ?_) (fun _ _ => ?_) ?_
  · rw [hlen]
    refine Int.not_lt.mpr (Int.le_ediv_of_mul_le (by omega) ?_)
    rw [← Int.natCast_mul]
    omega
  · unfold Builtin.Str.tooLong
    rw [hlen, hN, sizeLine_eq]
    exact decide_eq_false (by omega)
  · rw [if_neg (by omega), hne, if_neg (by simp), hN]
    have e : (⟨List.foldl (fun x1 x2 => x1 ++ x2) #[] (List.replicate n (S a).cps)⟩ : Str) = S ((List.replicate n a).flatten) := by
      have h := fold_rep a n #[]
      rw [Array.empty_append] at h
      exact congrArg Str.mk h
    rw [e]
    refine ⟨?_, .str (S ((List.replicate n a).flatten)), H, I.tok _, ⟨_, rfl⟩, q⟩
    have hl2 : (S (List.replicate n a).flatten).length = n * a.length := by simp [S, Str.length]
    rw [hl2, sizeLine_eq, Nat.mul_comm]
    omega
theorem g_mulS {a : List Nat} {n : Nat} {H : Hp} {Q : VK} (h2 : 2 ≤ n) (hn : n ≤ 1000) (ha : a ≠ []) (hl : a.length ≤ 10000) (k : Q (.str (S ((List.replicate n a).flatten))) H) : uMulS (.str (S a)) (.int (n : Int)) H Q := ⟨a, n, rfl, rfl, h2, hn, ha, hl, k⟩
theorem i_kget {K : PySem.W.Frag} {w : World} {td ty tx : TE} {σ : L2.St} {H : Hp} {Q : VK} (k : td σ H fun x H1 => ∃ a z, x = .ref a ∧ KMiss K w a z ∧ ty σ H1 fun y H2 => y = .str z ∧ tx σ H2 Q) : tKGet2 K w td ty tx σ H Q := k
end
end Eg

set_option Elab.async false
set_option linter.all false
set_option maxRecDepth 100000
set_option maxHeartbeats 4000000
/-! quiet defs: bodies that make no exception within; they may be called where one is handled -/
namespace Eg
open PySem PySem.Spec PyProof.Rows L2 Rl SX
/-- nothing is known of what is handled -/
abbrev quiet (X : Cx) : Cx := { X with calm := false }
structure FnQ (P : Program) (w : World) (K : PySem.W.Frag) (mg : Str → Option Value) (base : Heap) (k : Nat) (f : Addr) (fd : FuncData) (ps : List Str) (sp : Sp) : Prop where
  len : ∀ vs H Q E, sp vs H Q E → vs.length = ps.length
  run : ∀ (A : Around) (outer : List Env) (s : Shared) (H : Hp) (args : Args) (us : List Value) (vs : List V) (Q : VK), L2H.RoomH k A → Env0 P w K mg base A outer s H → BindsTo s fd args (ps.zip us) → Vals vs us → sp vs H Q E0 →
    codeAny (model P w) A (.call (.ref f) args) (CR CX0 outer P w H s Q E0) s
theorem FnQ.mono {P : Program} {w : World} {K : PySem.W.Frag} {mg : Str → Option Value} {base : Heap} {j k : Nat} {f : Addr} {fd : FuncData} {ps : List Str} {sp : Sp} (F : FnQ P w K mg base j f fd ps sp) (h : j ≤ k) : FnQ P w K mg base k f fd ps sp :=
  ⟨F.len, fun A outer s H args us vs Q hr => F.run A outer s H args us vs Q (hr.mono h)⟩
theorem inv_around {X : Cx} {A : Around} {xe : Value → Shared → Prop} {pins : List (Addr × Obj)} {σ : L2.St} {H : Hp} {s : Shared} (I : Inv X pins σ H s) (hf : A.frames = some X.stack) : Inv { X with A := A, calm := false, xe := xe } pins σ H s :=
  ⟨⟨I.ok.mod, I.ok.kind, I.ok.glob, I.ok.blt, I.ok.above, I.ok.inj, I.ok.has, I.ok.cab, fun h => Bool.noConfusion (show false = true from h), hf, I.ok.stk, I.ok.exf, I.ok.bs, I.ok.bsz, I.ok.noex, I.ok.exfs, I.ok.funs, I.ok.frf⟩,
    I.os, I.bare, I.base, I.loc, I.cell, I.free, I.freeC, I.pin, I.hok, I.len⟩
section
variable {P : Program} {w : World} {K : PySem.W.Frag} {mg : Str → Option Value} {base : Heap}
theorem env0_mark {A : Around} {outer : List Env} {s : Shared} {H : Hp} (e : Env0 P w K mg base A outer s H) : Env0 P w K mg base { A with handled := none } outer s H := ⟨e.frames, e.mod, e.bs, e.bsz, e.funs, e.frf, e.hok, e.bare⟩
theorem okQ {x qual : Str} {st : Stmt} {f : Addr} {fd : FuncData} {N ps : List Str} {k : Nat} {sp : Sp} (F : Fun K x qual st f fd) (S : FnScope N ps (defScope st)) (len : ∀ vs H Q E, sp vs H Q E → vs.length = ps.length)
    (hbody : ∀ (cdv : Value) (A : Around) (outer : List Env) (s : Shared) (H : Hp) (vs : List V) (Q : VK) (E : XK), L2H.RoomH k (A.deeper (envOfC qual (defScope st) s.heap.objs.size f cdv)) → sp vs H Q E →
      ∃ t, PSs (quiet (cxOf CX0 P w K mg base N qual (defScope st) f cdv A outer s H E).nox) (defBody st) t ∧ t { nx := fun _ H' => Q .non H', rt := Q } (start N vs) H) : FnQ P w K mg base (k + 1) f fd ps sp := by
  obtain ⟨oc, od, kV, doc, pm, an, cdv, ct, osl, rfl, lk, hcd⟩ := F.ex
  refine ⟨len, fun A outer s H args us vs Q hr e0 hb r hsp => ?_⟩
  have hl := len _ _ _ _ hsp
  have KX : K.In s.heap := e0.mod.kin.keeps fun b o e => (e0.bs b o e).1
  have hkind : ∀ y ∈ ps.zip us, (defScope st).names.lookup y.1 = some .local ∨ ((defScope st).names.lookup y.1 = some .cell ∧ ((cellsFrom (s.heap.objs.size + 1) (defScope st).names []).lookup y.1).isSome = true) := fun ⟨n, v⟩ hy => by
    rcases S.par n (List.of_mem_zip hy).1 with q | q
    · exact .inl q
    · exact .inr ⟨q, PySem.W.cellsFrom_some _ _ _ (.inl q)⟩
  refine codeAny_call_function hr.depth (KX _ _ lk) rfl S.co S.gen rfl (PySem.W.codeRec_of KX hcd) (hb _ _ _ _ ?_)
  refine wpAny_newFunctionEnv_cells S.kind hkind fun env he s1 x => ?_
  subst he
  refine ⟨(e0.mod.nolimit.keeps fun b o e => (e0.bs b o e).1).keeps x.toInCall.keep, codeAny_func ?_⟩
  obtain ⟨t, ht, hq⟩ := hbody cdv A outer s H vs Q E0 (hr.deeper _) hsp
  have I0 := inv_start (CX := CX0) (E := E0) (f := f) (cd := cdv) S (show ({ A with handled := none } : Around).handled = none from rfl) (env0_mark e0) hl r x
  have I : Inv (quiet (cxOf CX0 P w K mg base N qual (defScope st) f cdv A outer s H E0)) [] (start N vs) H s1 := inv_around (X := cxOf CX0 P w K mg base N qual (defScope st) f cdv { A with handled := none } outer s H E0) (A := A.deeper (envOfC qual (defScope st) s.heap.objs.size f cdv)) I0 (Around.frames_deeper e0.frames)
  refine wpAny_mono ((PSs.nox (X := quiet (cxOf CX0 P w K mg base N qual (defScope st) f cdv A outer s H E0)) ht).run [] s1 (start N vs) H _ I hq) (fun fl s' hs => ?_) fun e s' hs => hs
  cases fl with
  | ret u =>
    obtain ⟨v, σ', H', J, rv, q⟩ := hs
    exact ⟨v, H', J.os, J.bare, J.base, J.hok, rv, q⟩
  | next =>
    obtain ⟨σ', H', J, q⟩ := hs
    exact ⟨.non, H', J.os, J.bare, J.base, J.hok, rfl, q⟩
  | brk => exact hs.elim fun _ h => h.elim fun _ h => h.2.elim
  | cont => exact hs.elim fun _ h => h.elim fun _ h => h.2.elim
end
section
variable {X : Cx} {k : Nat} {f C : Addr} {fd : FuncData} {ps : List Str} {sp : Sp} {x m : Str} {p pos apos : Pos} {o e : Expr} {es : List Expr} {ta : TE} {t : TA}
theorem run_fnQ {pins : List (Addr × Obj)} {σ : L2.St} {H : Hp} {s : Shared} {Q : VK} {us : List Value} {vs : List V} (F : FnQ X.prog X.w X.K X.mg X.base k f fd ps sp) (hr : L2H.RoomH k X.A) (hb : Binds X.K fd ps [])
    (I : Inv X pins σ H s) (r : Vals vs us) (h : sp vs H Q E0) : wpAny (model X.prog X.w) X.A (call (.ref f) us) (EP X pins σ Q) X.xe s := by
  have hl : us.length = ps.length := by rw [← r.length]; exact F.len _ _ _ _ h
  have b := hb s us I.kIn (by rw [List.append_nil]; exact hl)
  rw [List.append_nil] at b
  refine wpAny_call (codeAny_mono (F.run X.A X.stack s H ⟨us, []⟩ us vs Q hr I.env0 b r h) fun r s' hq => ?_)
  cases r with
  | error e => exact False.elim hq
  | ok fl =>
    cases fl with
    | ret u => exact I.after hq
    | next => exact False.elim hq
    | brk => exact False.elim hq
    | cont => exact False.elim hq
structure MthQ (P : Program) (w : World) (K : PySem.W.Frag) (mg : Str → Option Value) (base : Heap) (k : Nat) (C : Addr) (x : Str) (ps : List Str) (sp : Sp) : Prop where
  ex : ∃ (f : Addr) (fd : FuncData), FnQ P w K mg base k f fd ps sp ∧ Meth K C x f ∧ Binds K fd ps []
  cl : Cls K C
structure DfnQ (P : Program) (w : World) (K : PySem.W.Frag) (mg : Str → Option Value) (base : Heap) (k : Nat) (x : Str) (ps : List Str) (sp : Sp) : Prop where
  ex : ∃ (f : Addr) (fd : FuncData), FnQ P w K mg base k f fd ps sp ∧ mg x = some (.ref f) ∧ PySem.W.keepIn K (.ref f) = true ∧ Binds K fd ps []
theorem pe_dfnQ (D : DfnQ X.prog X.w X.K X.mg X.base k x ps sp) (hr : L2H.RoomH k X.A) (hg : Gl X x) (ha : PA X (e :: es) t)
    (hdb : (x == ("__debug__" : Str)) = false := by decide) (he : starEach (e :: es) X.env = (false, eval e X.env) :: starEach es X.env := by rfl) (hpl : (backTo pos (starEach es X.env)).any (·.1) = false := by rfl) :
    PE X (.Call (.Name x p) (e :: es) [] pos) (tCall sp [] E0 t) := by
  obtain ⟨f, fd, F, hm, hk, hb⟩ := D.ex
  refine ⟨fun pins s σ H Q I h => ?_⟩
  refine wpAny_Call_Name_kw (ld_glob I hg hm ?_ hdb)
  refine PySem.W.callWith_K (h₀ := X.base) I.ok.mod.kin hk (thn (ha.run pos pins s σ H _ I h) fun us s1 ⟨vs, H1, I1, r, q⟩ => ⟨I1.kIn, ?_⟩) he hpl
  simp only [List.append_nil] at q
  exact run_fnQ F hr hb I1 r q
theorem pe_mthQ (D : MthQ X.prog X.w X.K X.mg X.base k C m ps sp) (hr : L2H.RoomH k X.A) {pl : Sem Bool} (ho : PE X o ta) (ha : PA X (e :: es) t)
    (hst : starEach (e :: es) X.env = (false, eval e X.env) :: starEach es X.env := by rfl) (hpl : (backTo pos (starEach es X.env)).any (·.1) = false := by rfl)
    (ht : eval (.Call (.Attribute o m apos) (e :: es) [] pos) X.env = (do
      let ov ← eval o X.env
      standAt apos.atName
      let (f, first) ← holding [ov] (getMethod ov m pl)
      callWith pos f first (backTo pos (starEach (e :: es) X.env)) (backToKw pos (keywordEach [] X.env))) := by rfl) :
    PE X (.Call (.Attribute o m apos) (e :: es) [] pos) (tMeth C m sp [] E0 ta t) := by
  obtain ⟨g, fd, F, hm, hb⟩ := D.ex
  refine ⟨fun pins s σ H Q I h => ?_⟩
  refine PySem.W.methodCall_KW (pl := pl) (thn (ho.run pins s σ H _ I h) fun u s1 ⟨y, H1, I1, ry, a, dx, fs, ey, ea, l, q⟩ => ?_) ht
  subst ey
  cases ry
  refine getmeth_ok I1 ea D.cl hm l ?_
  refine PySem.W.callWith_K (first := [.ref a]) (h₀ := X.base) I.ok.mod.kin hm.kp (thn (ha.run pos pins s1 σ H1 _ I1 q) fun us s2 ⟨vs, H2, I2, r, q2⟩ => ⟨I2.kIn, ?_⟩) hst hpl
  simp only [List.append_nil] at q2
  exact run_fnQ (us := .ref a :: us) (vs := .ref a :: vs) F hr hb I2 (.cons rfl r) q2
theorem pe_mthQ0 (D : MthQ X.prog X.w X.K X.mg X.base k C m ps sp) (hr : L2H.RoomH k X.A) {pl : Sem Bool} (ho : PE X o ta)
    (ht : eval (.Call (.Attribute o m apos) [] [] pos) X.env = (do
      let ov ← eval o X.env
      standAt apos.atName
      let (f, first) ← holding [ov] (getMethod ov m pl)
      callWith pos f first (backTo pos (starEach [] X.env)) (backToKw pos (keywordEach [] X.env))) := by rfl) :
    PE X (.Call (.Attribute o m apos) [] [] pos) (tMeth C m sp [] E0 ta tNil) := by
  obtain ⟨g, fd, F, hm, hb⟩ := D.ex
  refine ⟨fun pins s σ H Q I h => ?_⟩
  refine PySem.W.methodCall_KW (pl := pl) (thn (ho.run pins s σ H _ I h) fun u s1 ⟨y, H1, I1, ry, a, dx, fs, ey, ea, l, q⟩ => ?_) ht
  subst ey
  cases ry
  refine getmeth_ok I1 ea D.cl hm l ?_
  exact PySem.W.callWith_K0 (first := [.ref a]) I1.kIn hm.kp (run_fnQ (us := [.ref a]) (vs := [.ref a]) F hr hb I1 (.cons rfl .nil) q)
end
end Eg
theorem L2H.RoomH.units {k : Nat} {A : PySem.Around} (r : L2H.RoomH k A) : A.units + 64 < PySem.cLine := by have := r.un; omega
theorem hu_ofH {A : PySem.Around} {k : Nat} (hr : L2H.RoomH k A) : A.units + 1 < PySem.cLine := by have := hr.un; omega

set_option Elab.async false
set_option linter.all false
set_option maxRecDepth 100000
set_option maxHeartbeats 4000000
/-! a lambda that is handed from def to def; an exception that is handed to a def -/
namespace Eg
open PySem PySem.Spec PyProof.Rows L2 Rl SX
/-! what stands below a call's frames stays -/
theorem un_less {fs fs' : List Addr} {H H' : Hp} {h h' : Heap} (u : Un fs' [] H H' h h') (m : ∀ b ∈ fs, b ∈ fs') (n : ∀ b ∈ fs', b ∈ fs ∨ h.get? b = none) : Un fs [] H H' h h' :=
  ⟨fun b o q e hb hx => u.keep b o q e (fun z => (n b z).elim hb fun y => by rw [y] at q; cases q) hx, fun b o q e hb hx => u.slot b o q e (m b hb) hx, u.free, u.there, u.tups, u.frzs, u.tbls⟩
/-- what the lambda at f does, called from any state that came out of (h0, H0) with the frames fs kept -/
structure LamV (P : Program) (w : World) (K : PySem.W.Frag) (mg : Str → Option Value) (base : Heap) (k : Nat) (fs : List Addr) (f : Addr) (H0 : Hp) (h0 : Heap) (tl : XK → Hp → VK → Prop) : Prop where
  obj : ∃ (q : Str) (params : Arguments) (body : Expr) (scope : Scope) (cl : List (Str × Addr)) (pm ctv : Value) (c' : Addr), h0.get? f = some (PySem.W.kla_obj "<lambda>" q params body scope cl pm c' ctv)
  non : H0 f = none
  nfr : f ∉ fs
  run : ∀ (A : Around) (outer : List Env) (s : Shared) (HZ : Hp) (Q : VK) (E : XK), Room k A → Env0 P w K mg base A outer s HZ → Un fs [] H0 HZ h0 s.heap → tl E HZ Q →
    codeAny (model P w) A (.call (.ref f) ⟨[], []⟩) (CR (L2.CX P w) outer P w HZ s Q E) s
section
variable {P : Program} {w : World} {K : PySem.W.Frag} {mg : Str → Option Value} {base : Heap} {k : Nat} {fs fs' : List Addr} {f : Addr} {H0 H1 : Hp} {h0 h1 : Heap} {tl : XK → Hp → VK → Prop}
theorem LamV.step (l : LamV P w K mg base k fs f H0 h0 tl) (u : Un fs [] H0 H1 h0 h1) (m : ∀ b ∈ fs, b ∈ fs') (n : ∀ b ∈ fs', b ∈ fs ∨ h0.get? b = none) : LamV P w K mg base k fs' f H1 h1 tl := by
  obtain ⟨q, params, body, scope, cl, pm, ctv, c', e⟩ := l.obj
  refine ⟨⟨q, params, body, scope, cl, pm, ctv, c', u.keep f _ e l.non l.nfr (by simp)⟩, u.free f _ e l.non (by simp), fun z => (n f z).elim l.nfr (fun y => by rw [y] at e; cases e), fun A outer s HZ Q E hr e0 u2 h => ?_⟩
  exact l.run A outer s HZ Q E hr e0 (un_less ((u.mono m (fun b hb => hb)).trans u2) m n) h
end
/-- a def that gets a lambda first -/
structure FnL (P : Program) (w : World) (K : PySem.W.Frag) (mg : Str → Option Value) (base : Heap) (k kl : Nat) (g : Addr) (fd : FuncData) (ps : List Str) (sp : (XK → Hp → VK → Prop) → Sp) : Prop where
  len : ∀ tl vs H Q E, sp tl vs H Q E → vs.length + 1 = ps.length
  run : ∀ (A : Around) (outer : List Env) (s : Shared) (H : Hp) (us : List Value) (vs : List V) (Q : VK) (f : Addr) (tl : XK → Hp → VK → Prop), Room k A → Env0 P w K mg base A outer s H → BindsTo s fd ⟨.ref f :: us, []⟩ (ps.zip (.ref f :: us)) → Vals vs us →
    LamV P w K mg base kl (frs outer) f H s.heap tl → sp tl vs H Q E0 → codeAny (model P w) A (.call (.ref g) ⟨.ref f :: us, []⟩) (CR CX0 outer P w H s Q E0) s
structure DfnL (P : Program) (w : World) (K : PySem.W.Frag) (mg : Str → Option Value) (base : Heap) (k kl : Nat) (x : Str) (ps : List Str) (sp : (XK → Hp → VK → Prop) → Sp) : Prop where
  ex : ∃ (g : Addr) (fd : FuncData), FnL P w K mg base k kl g fd ps sp ∧ mg x = some (.ref g) ∧ PySem.W.keepIn K (.ref g) = true ∧ Binds K fd ps []
section
variable {P : Program} {w : World} {K : PySem.W.Frag} {mg : Str → Option Value} {base : Heap}
theorem okL {x : Str} {st : Stmt} {g : Addr} {fd : FuncData} {N ps : List Str} {k kl : Nat} {sp : (XK → Hp → VK → Prop) → Sp} (F : Fun K x x st g fd) (S : FnScope N ps (defScope st)) (len : ∀ tl vs H Q E, sp tl vs H Q E → vs.length + 1 = ps.length)
    (hbody : ∀ (cdv : Value) (A : Around) (outer : List Env) (s : Shared) (H : Hp) (vs : List V) (Q : VK) (f : Addr) (tl : XK → Hp → VK → Prop), Room k (A.deeper (envOfC x (defScope st) s.heap.objs.size g cdv)) → LamV P w K mg base kl (frs outer) f H s.heap tl → sp tl vs H Q E0 →
      ∃ t, PSs (cxOf CX0 P w K mg base N x (defScope st) g cdv A outer s H E0).nox (defBody st) t ∧ t { nx := fun _ H' => Q .non H', rt := Q } (start N (.ref f :: vs)) H) : FnL P w K mg base (k + 1) kl g fd ps sp := by
  obtain ⟨oc, od, kV, doc, pm, an, cdv, ct, osl, rfl, lk, hcd⟩ := F.ex
  refine ⟨len, fun A outer s H us vs Q f tl hr e0 hb r hl hsp => LamX.run_ofS lk hcd S hr e0 hb (vs := .ref f :: vs) (.cons rfl r) (len tl vs H Q E0 hsp) fun hr' => ?_⟩
  obtain ⟨t, h, q⟩ := hbody cdv A outer s H vs Q f tl hr' hl hsp
  exact ⟨t, h.nox, q⟩
end
/-! calls of it, calls that hand it on -/
def tLamC (i : Nat) (f : Addr) (tl : XK → Hp → VK → Prop) (W : WX) : TE := fun σ H Q => σ[i]? = some (some (.ref f)) ∧ tl (WE W σ) H Q
def tFwd (i : Nat) (f : Addr) (sp : (XK → Hp → VK → Prop) → Sp) (tl : XK → Hp → VK → Prop) (t : TA) : TE := fun σ H Q => σ[i]? = some (some (.ref f)) ∧ t σ H fun vs H1 => sp tl vs H1 Q E0
section
variable {X : Cx} {k kl i : Nat} {f : Addr} {tl : XK → Hp → VK → Prop} {W : WX} {a x : Str} {p1 p2 pos : Pos} {ps : List Str} {sp : (XK → Hp → VK → Prop) → Sp} {es : List Expr} {t : TA}
theorem pe_lamc (hL : LamV X.prog X.w X.K X.mg X.base k X.fs f X.H_0 X.s_0.heap tl) (hex : X.ex = []) (hr : Room k X.A) (tk : Takes X W) (hN : X.N[i]? = some a := by rfl) (hv : Vis X.env.scope a := by first | exact Or.inl rfl | exact Or.inr (Or.inl rfl) | exact Or.inr (Or.inr rfl)) (hd : (a == ("__debug__" : Str)) = false := by decide)
    (hcd : (a == ("__classdict__" : Str)) = false := by decide) : PE X (.Call (.Name a p1) [] [] p2) (tLamC i f tl W) := by
  refine ⟨fun pins s σ H Q I h => ?_⟩
  obtain ⟨hs, ht⟩ := h
  refine wpAny_Call_Name_kw (thn ((pe_var (pos := p1) (i := i) hN hv hd hcd).run pins s σ H (fun v H1 => v = .ref f ∧ H1 = H) I ⟨.ref f, hs, rfl, rfl⟩) fun u s1 ⟨v, H1, I1, r1, ev, eH⟩ => ?_)
  subst ev eH
  cases r1
  have u1 : Un X.fs [] X.H_0 H1 X.s_0.heap s1.heap := by have := I1.base; rwa [hex] at this
  have L1 := hL.step u1 (fun _ hb => hb) fun _ hb => .inl hb
  obtain ⟨q, params, body, scope, cl, pm, ctv, c', e⟩ := L1.obj
  refine PySem.W.callWith_F0 ⟨_, _, _, _, e⟩ (wpAny_call (codeAny_mono (hL.run X.A X.stack s1 H1 Q (WE W σ) hr I1.env0 u1 ht) fun r s' hq => ?_))
  cases r with
  | error er => exact passAt tk σ pins H1 s1 er s' I1 hq
  | ok fl =>
    cases fl with
    | ret u => exact I1.after hq
    | next => exact False.elim hq
    | brk => exact False.elim hq
    | cont => exact False.elim hq
theorem run_fnL {pins : List (Addr × Obj)} {σ : L2.St} {H : Hp} {s : Shared} {Q : VK} {us : List Value} {vs : List V} {g : Addr} {fd : FuncData} (F : FnL X.prog X.w X.K X.mg X.base k kl g fd ps sp) (hr : Room k X.A) (hb : Binds X.K fd ps [])
    (I : Inv X pins σ H s) (r : Vals vs us) (hL : LamV X.prog X.w X.K X.mg X.base kl (frs X.stack) f H s.heap tl) (h : sp tl vs H Q E0) : wpAny (model X.prog X.w) X.A (call (.ref g) (.ref f :: us)) (EP X pins σ Q) X.xe s := by
  have hl : (Value.ref f :: us).length = ps.length := by rw [List.length_cons, ← r.length]; exact F.len _ _ _ _ _ h
  have b := hb s (.ref f :: us) I.kIn (by rw [List.append_nil]; exact hl)
  rw [List.append_nil] at b
  refine wpAny_call (codeAny_mono (F.run X.A X.stack s H us vs Q f tl hr I.env0 b r hL h) fun r s' hq => ?_)
  cases r with
  | error e => exact False.elim hq
  | ok fl =>
    cases fl with
    | ret u => exact I.after hq
    | next => exact False.elim hq
    | brk => exact False.elim hq
    | cont => exact False.elim hq
theorem pe_fwd (D : DfnL X.prog X.w X.K X.mg X.base k kl x ps sp) (hL : LamV X.prog X.w X.K X.mg X.base kl X.fs f X.H_0 X.s_0.heap tl) (hex : X.ex = []) (hst : X.stack = X.env :: X.outer) (hfl : X.env.frame = some X.env.locals) (hr : Room k X.A) (hg : Gl X x) (ha : PA X es t)
    (hN : X.N[i]? = some a := by rfl) (hv : Vis X.env.scope a := by first | exact Or.inl rfl | exact Or.inr (Or.inl rfl) | exact Or.inr (Or.inr rfl)) (hd : (a == ("__debug__" : Str)) = false := by decide)
    (hcd : (a == ("__classdict__" : Str)) = false := by decide) (hdb : (x == ("__debug__" : Str)) = false := by decide)
    (he : starEach (.Name a p2 :: es) X.env = (false, eval (.Name a p2) X.env) :: starEach es X.env := by rfl) (hpl : (backTo pos (starEach es X.env)).any (·.1) = false := by rfl) :
    PE X (.Call (.Name x p1) (.Name a p2 :: es) [] pos) (tFwd i f sp tl t) := by
  obtain ⟨g, fd, F, hm, hk, hb⟩ := D.ex
  refine ⟨fun pins s σ H Q I h => ?_⟩
  obtain ⟨hs, ht⟩ := h
  refine wpAny_Call_Name_kw (ld_glob I hg hm ?_ hdb)
  refine PySem.W.callWith_K (h₀ := X.base) I.ok.mod.kin hk ?_ he hpl
  rw [he]
  show wpAny _ _ (spliced ((false, eval (.Name a p2) X.env) :: backTo pos (starEach es X.env))) _ _ _
  refine Calls.spliced_cons (thn ((pe_var (pos := p2) (i := i) hN hv hd hcd).run pins _ σ H (fun v H1 => v = .ref f ∧ H1 = H) I ⟨.ref f, hs, rfl, rfl⟩) fun u s1 ⟨v, H1, I1, r1, ev, eH⟩ => ?_)
  subst ev eH
  cases r1
  refine thn (ha.run pos pins s1 σ H1 _ I1 ht) fun us s2 ⟨vs, H2, I2, r, q⟩ => ⟨I2.kIn, run_fnL F hr hb I2 r ?_ q⟩
  have u2 : Un X.fs [] X.H_0 H2 X.s_0.heap s2.heap := by have := I2.base; rwa [hex] at this
  refine hL.step u2 (fun b hb => ?_) fun b hb => ?_
  · rw [hst]
    show b ∈ List.filterMap (·.frame) (X.env :: X.outer)
    rw [List.filterMap_cons, hfl]
    exact List.mem_cons_of_mem _ hb
  · rw [hst] at hb
    have hb : b ∈ List.filterMap (·.frame) (X.env :: X.outer) := hb
    rw [List.filterMap_cons, hfl] at hb
    rcases List.mem_cons.mp hb with e | e
    · refine .inr ?_
      rw [e]
      exact Heap.get?_none_of_le I2.ok.above
    · exact .inl e
/-! a lambda without parameters, made as the first argument -/
def tLam2 (T : List (Addr × Str)) (q : Str) (sp : (XK → Hp → VK → Prop) → Sp) (t : XK → TE) (ta : TA) : TE := fun σ H Q => LamX.Tabs T H ∧ ∀ H1, LamX.ExtN H H1 → LamX.Tabs T H1 → ∀ c', H1 c' = some (LamX.CodeO c' q) →
  ta σ H1 fun vs H2 => sp (fun E HZ Q' => HZ c' = some (LamX.CodeO c' q) ∧ t E σ HZ Q') vs H2 Q E0
theorem pe_lam {T : List (Addr × Str)} {c P : Addr} {params : Arguments} {body : Expr} {scope : Scope} {tb : XK → TE} {lpos : Pos} (D : DfnL X.prog X.w X.K X.mg X.base k (kl + 1) x ps sp) (hr : Room k X.A) (hg : Gl X x) (ha : PA X es t)
    (TB : LamX.TabB X.base X.mg c P) (hcode : X.env.code = .ref c) (hmT : (P, X.env.qual ++ "<lambda>") ∈ T) (hu : ∀ p ∈ T, p.1 = P → p.2 = X.env.qual ++ "<lambda>") (L : LamX.LamS X.env.scope scope) (hdef : defaultsOf params X.env = ([], []))
    (hbind : ∀ (q : Str) (cl : List (Str × Addr)) (pm cv ctv : Value), bindArgs (PySem.W.kla_fn "<lambda>" q params body scope cl pm cv ctv) ⟨[], []⟩ = pure [])
    (hbody : ∀ (A : Around) (outer : List Env) (s : Shared) (H : Hp) (E : XK) (f c' : Addr), Room kl (A.deeper (LamX.lamEnv X scope s.heap.objs.size f c')) → PE (LamX.lamCx X A outer s H E scope f c') body (tb E))
    (hst : X.stack = X.env :: X.outer) (hfl : X.env.frame = some X.env.locals) (hdb : (x == ("__debug__" : Str)) = false := by decide)
    (he : starEach (.Lambda params body scope lpos :: es) X.env = (false, eval (.Lambda params body scope lpos) X.env) :: starEach es X.env := by rfl) (hpl : (backTo pos (starEach es X.env)).any (·.1) = false := by rfl) :
    PE X (.Call (.Name x p1) (.Lambda params body scope lpos :: es) [] pos) (tLam2 T (X.env.qual ++ "<lambda>") sp tb t) := by
  obtain ⟨g, fd, F, hm, hk, hb⟩ := D.ex
  refine ⟨fun pins s σ H Q I h => ?_⟩
  obtain ⟨hT, h⟩ := h
  refine wpAny_Call_Name_kw (ld_glob I hg hm ?_ hdb)
  refine PySem.W.callWith_K (h₀ := X.base) I.ok.mod.kin hk ?_ he hpl
  rw [he]
  show wpAny _ _ (spliced ((false, eval (.Lambda params body scope lpos) X.env) :: backTo pos (starEach es X.env))) _ _ _
  refine Calls.spliced_cons (LamX.lam_make2 (I.tok _) TB hcode hmT hu hT hdef (L.has I.ok) fun f c' pm' ctv H1 s1 I1 eN T1 hf hfn hfr hco => ?_)
  rw [hst] at hfr
  have hfr2 : f ∉ X.env.locals :: frs X.outer := by
    have e : frs (X.env :: X.outer) = X.env.locals :: frs X.outer := by
      unfold frs
      rw [List.filterMap_cons, hfl]
    rwa [e] at hfr
  have hnl : f ≠ X.env.locals := fun z => hfr2 (by rw [z]; exact List.mem_cons_self)
  have hnf : f ∉ X.fs := fun z => hfr2 (List.mem_cons_of_mem _ z)
  generalize eo : PySem.W.kla_obj "<lambda>" (X.env.qual ++ "<lambda>") params body scope (cloFrom X.env.cells scope.names []) pm' c' ctv = o at hf
  have J1 : Inv X (pins ++ [(f, o)]) σ H1 s1 := I1.pins_of fun p hp => by
    rcases List.mem_append.mp hp with z | z
    · exact I1.pin p (List.mem_append_right _ z)
    · rw [List.mem_singleton.mp z]
      refine ⟨hf, hfn, hnl, hnf, fun v z => ?_⟩
      rw [← eo] at z
      cases z
  refine thn (ha.run pos _ s1 σ H1 _ J1 (h H1 eN T1 c' hco)) fun us s2 ⟨vs, H2, J2, r, q⟩ => ?_
  have I2 := J2.unpinned
  obtain ⟨hf2, hn2, _⟩ := J2.pin (f, o) (List.mem_append_right _ (List.mem_append_right _ (List.mem_singleton.mpr rfl)))
  refine ⟨I2.kIn, run_fnL F hr hb I2 r ⟨⟨_, _, _, _, _, _, _, _, by rw [eo]; exact hf2⟩, hn2, by rw [hst]; exact hfr, fun A outer s HZ Q' E hr' e0 u ⟨hcz, ht⟩ => ?_⟩ q⟩
  have u0 := u
  obtain ⟨⟨oc, us', t', hoc, hdc, hvc⟩, _, _⟩ := e0.hok c' _ hcz
  have of1 : s.heap.get? f = some (PySem.W.kla_obj "<lambda>" (X.env.qual ++ "<lambda>") params body scope (cloFrom X.env.cells scope.names []) pm' c' ctv) := by
    rw [eo]
    exact u.keep f _ hf2 hn2 (by rw [hst]; exact hfr) (by simp)
  refine PySem.W.kla_callFunE hr'.depth of1 rfl L.co L.gen rfl ⟨c', oc, us', t', rfl, hoc, hdc, hvc⟩ ?_
  rw [hbind]
  have hnl' : s.heap.NoLimit := e0.mod.nolimit.keeps fun b o e => (e0.bs b o e).1
  refine wpAny_pure (wpAny_newFunctionEnv (fun y hy => (L.own y hy).2) (fun y hy => absurd hy (by simp)) (fun h₁ hns hsb => ⟨hnl'.fresh _ hsb, ?_⟩) L.kind)
  have kp : ∀ b o, s.heap.get? b = some o → h₁.get? b = some o := fun b o e => hsb.extBut b o (Nat.ne_of_lt (Heap.lt_size e)) (Heap.get?_push_of_some _ e)
  have J := LamX.lam_start2 (E := E) (f := f) (c' := c') (tk := s.toks + ([] : List (Str × Value)).length) I2 L e0 hr'.hd u0 hns kp
  refine PySem.W.kla_codeExpr (wpAny_mono ((hbody A outer s HZ E f c' (hr'.deeper _)).run [] _ _ HZ Q' J ht) (fun v s' hq => ?_) fun e s' hq => hq)
  obtain ⟨w', H', J', rv, q⟩ := hq
  exact ⟨w', H', J'.os, J'.bare, J'.base, J'.hok, rv, q⟩
theorem i_lam2 {T : List (Addr × Str)} {q : Str} {tb : XK → TE} {ta : TA} {σ : L2.St} {H : Hp} {Q : VK} (hT : LamX.Tabs T H) (h : ∀ H1, LamX.ExtN H H1 → LamX.Tabs T H1 → ∀ c', H1 c' = some (LamX.CodeO c' q) → ta σ H1 fun vs H2 => sp (fun E HZ Q' => HZ c' = some (LamX.CodeO c' q) ∧ tb E σ HZ Q') vs H2 Q E0) : tLam2 T q sp tb ta σ H Q := ⟨hT, h⟩
/-- the name of the lambdas of a def -/
abbrev lq (x : Str) : Str := (x ++ ".<locals>.") ++ "<lambda>"
end
end Eg

set_option Elab.async false
set_option linter.all false
set_option maxRecDepth 100000
set_option maxHeartbeats 4000000
namespace Eg
open PySem PySem.Spec PyProof.Rows L2 Rl SX
/-- what isinstance asks of an exception's class -/
structure XisC (K : PySem.W.Frag) (D : Addr) : Prop where
  hcl : (PySem.W.clsIn K D).isSome = true
  hga : PySem.W.findIn K (.ref D) "__getattribute__" = some (some (.builtin "BaseException.__getattribute__"))
  hgt : PySem.W.findIn K (.ref D) "__getattr__" = some none
  hsub : PySem.W.subIn K (.ref D) (.type "BaseException") = some true
  ha : PySem.W.findIn K (.ref D) "__class__" = some (some (.builtin "object.__class__"))
  hn : PySem.W.specialIn K (.builtin "object.__class__") "__get__" = some (some (.builtin "getset_descriptor.__get__"))
  htk : PySem.W.takesIn K (.builtin "object.__class__") = some true
  hm : PySem.W.mroIn K D (.type "object") = some true
/-- the caught exception, asked by isinstance: one class or a tuple of them that was just laid -/
def rIsX (K : PySem.W.Frag) (a : Addr) (cls : Value) (d : Option Addr) : List V → Hp → VK → Prop := fun xs H Q => ∃ (D dd : Addr) (fs : List (Str × V)) (c : V) (b : Bool), xs = [.ref a, c] ∧ cls = .ref D ∧ XisC K D ∧ d = some dd ∧ H dd = some (.xd fs) ∧
  ((∃ cv, ClsV c cv ∧ PySem.W.kitOne K (.ref D) cv = some b) ∨ ∃ (tp : Addr) (cs : List V) (us : List Value), c = .ref tp ∧ H tp = some (.tup cs) ∧ Paired ClsV cs us ∧ PySem.W.kitAny K (.ref D) us = some b) ∧ Q (.bl b) H
/-- its field -/
def tXfA (K : PySem.W.Frag) (a : Addr) (cls : Value) (d : Option Addr) (f : Str) (te : TE) : TE := fun σ H Q => te σ H fun x H1 => ∃ (C dd : Addr) (fs : List (Str × V)) (v : V), x = .ref a ∧ cls = .ref C ∧ XfC K C ∧ PySem.W.findIn K (.ref C) f = some none ∧ d = some dd ∧ H1 dd = some (.xd fs) ∧ fs.lookup f = some v ∧ Q v H1
section
variable {X : Cx} {a : Addr} {cls : Value} {d : Option Addr} {oe : Obj} {pn : List (Addr × Obj)} {e : Expr} {te : TE} {pos : Pos} {n : Str}
theorem inst_at {X : Cx} {C dd : Addr} {fs : List (Str × V)} {pins : List (Addr × Obj)} {σ : L2.St} {H : Hp} {s : Shared} (I : Inv (X.suite a ((a, oe) :: pn)) pins σ H s) (hz : Zc (.ref C) (some dd) oe) (hf : ∃ vs, oe.data = .fields vs) (ea : H dd = some (.xd fs)) :
    ∃ od, PySem.W.InstAt s.heap a oe C (some od) ∧ ∀ v, fs.lookup n = some v → ∃ u, PySem.W.lookIn n od = some (some u) ∧ RelV v u := by
  obtain ⟨ha, _⟩ := I.pin (a, oe) (List.mem_append_left _ List.mem_cons_self)
  obtain ⟨vs, hd⟩ := hf
  obtain ⟨mA, hns, hr⟩ := (show ObjOk X.prog X.w H s.heap dd (.xd fs) from I.hok dd _ ea)
  obtain ⟨od, ho, hl⟩ := lookIn_ns hns
  refine ⟨od, ⟨ha, hz.1, by unfold PySem.W.notCls; rw [hd] <;> rfl, by rw [hz.2]; exact ho⟩, fun v l => ?_⟩
  obtain ⟨u, hu, ru⟩ := RelO.some_of (v := v) (o := mA n) (by rw [← l]; exact hr n)
  exact ⟨u, by rw [hl, hu], ru⟩
theorem pe_xfA (hz : Zc cls d oe) (hf : ∃ vs, oe.data = .fields vs) (he : PE (X.suite a ((a, oe) :: pn)) e te) (hb : attributeBase e n X.env (eval e X.env) = eval e X.env := by rfl) :
    PE (X.suite a ((a, oe) :: pn)) (.Attribute e n pos) (tXfA X.K a cls d n te) := by
  refine ⟨fun pins s σ H Q I h => attr_of hb (thn (he.run pins s σ H _ I h) fun u s1 ⟨x, H1, I1, rx, C, dd, fs, v, ex, ec, T, hno, ed, ea, l, q⟩ => ?_)⟩
  subst ex ec ed
  cases rx
  obtain ⟨od, J, g⟩ := inst_at (n := n) I1 hz hf ea
  obtain ⟨u, hu, ru⟩ := g v l
  exact HandSPX.exc_get I1.kIn J T.ga T.gg T.exC (PySem.W.findObj_own T.hdC hno rfl hu) (handed_of ru) ⟨v, H1, I1.tok _, ru, q⟩
theorem call_isX (hz : Zc cls d oe) (hf : ∃ vs, oe.data = .fields vs) : CallR (X.suite a ((a, oe) :: pn)) (.builtin "isinstance") (rIsX X.K a cls d) := by
  intro pins s σ H xs us Q I r h
  obtain ⟨D, dd, fs, c, b, rfl, ec, T, ed, ea, h, q⟩ := h
  subst ec ed
  obtain ⟨u1, u2, rfl, r1, r2⟩ := vals2 r
  cases (show u1 = Value.ref a from r1)
  obtain ⟨od, J, _⟩ := inst_at (n := "x") I hz hf ea
  have Z := PySem.W.kitx_exc (x := a) (ox := oe) (od := some od) T.hcl T.hga T.hgt T.hsub T.ha T.hn T.htk T.hm
  rcases h with ⟨cv, k, e1⟩ | ⟨tp, cs, ws, ec, hT, k, e1⟩
  · have e2 := k.eq r2
    subst e2
    exact PySem.W.kia_one Z I.kIn J e1 (fun z => nomatch z) fun tk => ⟨.bl b, H, I.tok tk, rfl, q⟩
  · subst ec
    cases (show u2 = Value.ref tp from r2)
    obtain ⟨_, its, rv, o, h1, h2, m, h3⟩ := (show ObjOk X.prog X.w H s.heap tp (.tup cs) from I.hok tp _ hT)
    have e3 := ClsV.all k rv
    subst e3
    obtain ⟨oc, od', dt, sl⟩ := o
    simp only at h2 h3
    subst h2 h3
    exact PySem.W.kia_tup Z I.kIn J h1 e1 (fun z => nomatch z) fun tk => ⟨.bl b, H, I.tok tk, rfl, q⟩
end
/-! a def that gets the caught exception -/
structure FnE (P : Program) (w : World) (K : PySem.W.Frag) (mg : Str → Option Value) (base : Heap) (k : Nat) (g : Addr) (fd : FuncData) (ps : List Str) (sp : Value → Option Addr → Sp) : Prop where
  one : ps.length = 1
  run : ∀ (A : Around) (outer : List Env) (s : Shared) (H : Hp) (Q : VK) (a : Addr) (oe : Obj) (cls : Value) (d : Option Addr), L2H.RoomH k (A.mark (some (.ref a))) → L2H.PinOk outer H s (a, oe) → Zc cls d oe → (∃ vs, oe.data = .fields vs) → Env0 P w K mg base (A.mark (some (.ref a))) outer s H →
    BindsTo s fd ⟨[.ref a], []⟩ (ps.zip [.ref a]) → sp cls d [.ref a] H Q E0 → codeAny (model P w) (A.mark (some (.ref a))) (.call (.ref g) ⟨[.ref a], []⟩) (CR CX0 outer P w H s Q E0) s
structure DfnE (P : Program) (w : World) (K : PySem.W.Frag) (mg : Str → Option Value) (base : Heap) (k : Nat) (x : Str) (ps : List Str) (sp : Value → Option Addr → Sp) : Prop where
  ex : ∃ (g : Addr) (fd : FuncData), FnE P w K mg base k g fd ps sp ∧ mg x = some (.ref g) ∧ PySem.W.keepIn K (.ref g) = true ∧ Binds K fd ps []
section
variable {P : Program} {w : World} {K : PySem.W.Frag} {mg : Str → Option Value} {base : Heap}
theorem okE {x : Str} {st : Stmt} {g : Addr} {fd : FuncData} {N ps : List Str} {k : Nat} {sp : Value → Option Addr → Sp} (F : Fun K x x st g fd) (S : FnScope N ps (defScope st)) (one : ps.length = 1)
    (hbody : ∀ (cdv : Value) (A : Around) (outer : List Env) (s : Shared) (H : Hp) (Q : VK) (a : Addr) (oe : Obj) (cls : Value) (d : Option Addr), L2H.RoomH k ((A.deeper (envOfC x (defScope st) s.heap.objs.size g cdv)).mark (some (.ref a))) → Zc cls d oe → (∃ vs, oe.data = .fields vs) → sp cls d [.ref a] H Q E0 →
      ∃ t, PSs ((cxOf CX0 P w K mg base N x (defScope st) g cdv A outer s H E0).suite a [(a, oe)]) (defBody st) t ∧ t { nx := fun _ H' => Q .non H', rt := Q } (start N [.ref a]) H) : FnE P w K mg base (k + 1) g fd ps sp := by
  obtain ⟨oc, od, kV, doc, pm, an, cdv, ct, osl, rfl, lk, hcd⟩ := F.ex
  refine ⟨one, fun A outer s H Q a oe cls d hr hp hz hf e0 hb hsp => ?_⟩
  have KX : K.In s.heap := e0.mod.kin.keeps fun b o e => (e0.bs b o e).1
  have hkind : ∀ y ∈ ps.zip [Value.ref a], (defScope st).names.lookup y.1 = some .local ∨ ((defScope st).names.lookup y.1 = some .cell ∧ ((cellsFrom (s.heap.objs.size + 1) (defScope st).names []).lookup y.1).isSome = true) := fun ⟨n, v⟩ hy =>
    (S.par n (List.of_mem_zip hy).1).elim .inl fun q => .inr ⟨q, PySem.W.cellsFrom_some _ _ _ (.inl q)⟩
  refine codeAny_call_function hr.depth (KX _ _ lk) rfl S.co S.gen rfl (PySem.W.codeRec_of KX hcd) (hb _ _ _ _ (wpAny_newFunctionEnv_cells S.kind hkind fun env he s1 x1 => ?_))
  subst he
  refine ⟨(e0.mod.nolimit.keeps fun b o e => (e0.bs b o e).1).keeps x1.toInCall.keep, codeAny_func ?_⟩
  obtain ⟨t, ht, hq⟩ := hbody cdv A outer s H Q a oe cls d (hr.deeper _) hz hf hsp
  have I0 := L2H.inv_startH (CX := CX0) (E := E0) (f := g) (cd := cdv) S hp e0 (vs := [.ref a]) (by rw [one]; rfl) (.cons rfl .nil) x1
  have I : Inv ((cxOf CX0 P w K mg base N x (defScope st) g cdv A outer s H E0).suite a [(a, oe)]) [] (start N [.ref a]) H s1 := inv_around I0 (Around.frames_deeper e0.frames)
  refine wpAny_mono (ht.run [] s1 (start N [.ref a]) H _ I hq) (fun fl s' hs => ?_) fun e s' hs => hs.elim
  cases fl with
  | ret u =>
    obtain ⟨v, σ', H', J, rv, q⟩ := hs
    exact ⟨v, H', J.os, J.bare, J.base, J.hok, rv, q⟩
  | next =>
    obtain ⟨σ', H', J, q⟩ := hs
    exact ⟨.non, H', J.os, J.bare, J.base, J.hok, rfl, q⟩
  | brk => exact hs.elim fun _ h => h.elim fun _ h => h.2.elim
  | cont => exact hs.elim fun _ h => h.elim fun _ h => h.2.elim
end
/-- the call, in an except suite -/
def tCallE (i : Nat) (a : Addr) (cls : Value) (d : Option Addr) (sp : Value → Option Addr → Sp) : TE := fun σ H Q => σ[i]? = some (some (.ref a)) ∧ sp cls d [.ref a] H Q E0
section
variable {X : Cx} {a : Addr} {cls : Value} {d : Option Addr} {oe : Obj} {pn : List (Addr × Obj)} {k i : Nat} {x y : Str} {ps : List Str} {sp : Value → Option Addr → Sp} {p1 p2 pos : Pos}
theorem pe_dfnE (D : DfnE X.prog X.w X.K X.mg X.base k x ps sp) (hr : L2H.RoomH k (X.A.mark (some (.ref a)))) (hz : Zc cls d oe) (hf : ∃ vs, oe.data = .fields vs) (hg : Gl X x)
    (hN : X.N[i]? = some y := by rfl) (hv : Vis X.env.scope y := by first | exact Or.inl rfl | exact Or.inr (Or.inl rfl) | exact Or.inr (Or.inr rfl)) (hd : (y == ("__debug__" : Str)) = false := by decide)
    (hcd : (y == ("__classdict__" : Str)) = false := by decide) (hdb : (x == ("__debug__" : Str)) = false := by decide)
    (he : starEach [.Name y p2] X.env = (false, eval (.Name y p2) X.env) :: starEach [] X.env := by rfl) :
    PE (X.suite a ((a, oe) :: pn)) (.Call (.Name x p1) [.Name y p2] [] pos) (tCallE i a cls d sp) := by
  obtain ⟨g, fd, F, hm, hk, hb⟩ := D.ex
  refine ⟨fun pins s σ H Q I h => ?_⟩
  obtain ⟨hs, ht⟩ := h
  refine wpAny_Call_Name_kw (ld_glob I hg hm ?_ hdb)
  refine PySem.W.callWith_K (h₀ := X.base) I.ok.mod.kin hk ?_ he rfl
  rw [he]
  show wpAny _ _ (spliced ((false, eval (.Name y p2) X.env) :: backTo pos (starEach [] X.env))) _ _ _
  refine Calls.spliced_cons (thn ((pe_var (X := X.suite a ((a, oe) :: pn)) (pos := p2) (i := i) hN hv hd hcd).run pins _ σ H (fun v H1 => v = .ref a ∧ H1 = H) I ⟨.ref a, hs, rfl, rfl⟩) fun u s1 ⟨v, H1, I1, r1, ev, eH⟩ => ?_)
  subst ev eH
  cases r1
  refine Calls.spliced_nil ⟨I1.kIn, ?_⟩
  have hl : [Value.ref a].length = ps.length := F.one.symm
  have b := hb s1 [.ref a] I1.kIn (by rw [List.append_nil]; exact hl)
  rw [List.append_nil] at b
  have P1 := I1.pin (a, oe) (List.mem_append_left _ List.mem_cons_self)
  have hpin : L2H.PinOk X.stack H1 s1 (a, oe) := ⟨P1.1, P1.2.1, fun hm => (List.mem_cons.mp (I1.stkSub a hm)).elim P1.2.2.1 P1.2.2.2.1, P1.2.2.2.2⟩
  refine wpAny_call (codeAny_mono (F.run X.A X.stack s1 H1 Q a oe cls d hr hpin hz hf I1.env0 b ht) fun r s' hq => ?_)
  cases r with
  | error e => exact False.elim hq
  | ok fl =>
    cases fl with
    | ret u => exact I1.after hq
    | next => exact False.elim hq
    | brk => exact False.elim hq
    | cont => exact False.elim hq
end
/-- a def whose code object is known -/
theorem okC {P : Program} {w : World} {K : PySem.W.Frag} {mg : Str → Option Value} {base : Heap} {x qual : Str} {st : Stmt} {f c : Addr} {fd : FuncData} {N ps : List Str} {k : Nat} {sp : Sp} (F : Fun K x qual st f fd) (hc : fd.code = .ref c) (S : FnScope N ps (defScope st)) (len : ∀ vs H Q E, sp vs H Q E → vs.length = ps.length)
    (hbody : ∀ (A : Around) (outer : List Env) (s : Shared) (H : Hp) (vs : List V) (Q : VK) (E : XK), Room k (A.deeper (envOfC qual (defScope st) s.heap.objs.size f (.ref c))) → sp vs H Q E →
      ∃ t, PSs (cxOf CX0 P w K mg base N qual (defScope st) f (.ref c) A outer s H E).nox (defBody st) t ∧ t { nx := fun _ H' => Q .non H', rt := Q } (start N vs) H) : FnOk P w K mg base CX0 (k + 1) f fd ps sp := by
  obtain ⟨oc, od, kV, doc, pm, an, cdv, ct, osl, rfl, lk, hcd⟩ := F.ex
  obtain rfl : cdv = .ref c := hc
  refine fn_of lk hcd S len fun A outer s H vs Q E hr hsp => ?_
  obtain ⟨t, h, q⟩ := hbody A outer s H vs Q E hr hsp
  exact ⟨t, h.nox, q⟩
/-! stepping -/
section
variable {K : PySem.W.Frag} {σ : L2.St} {H : Hp} {Q : VK} {i : Nat} {f a : Addr} {tl : XK → Hp → VK → Prop} {W : WX} {spl : (XK → Hp → VK → Prop) → Sp} {t : TA} {cls : Value} {d : Option Addr} {sp : Value → Option Addr → Sp} {te : TE} {n : Str}
theorem i_lamc (h : σ[i]? = some (some (.ref f))) (k : tl (WE W σ) H Q) : tLamC i f tl W σ H Q := ⟨h, k⟩
theorem i_fwd (h : σ[i]? = some (some (.ref f))) (k : t σ H fun vs H1 => spl tl vs H1 Q E0) : tFwd i f spl tl t σ H Q := ⟨h, k⟩
theorem i_callE (h : σ[i]? = some (some (.ref a))) (k : sp cls d [.ref a] H Q E0) : tCallE i a cls d sp σ H Q := ⟨h, k⟩
def gXfA (K : PySem.W.Frag) (a : Addr) (cls : Value) (d : Option Addr) (f : Str) (x : V) (H1 : Hp) (Q : VK) : Prop := ∃ (C dd : Addr) (fs : List (Str × V)) (v : V), x = .ref a ∧ cls = .ref C ∧ XfC K C ∧ PySem.W.findIn K (.ref C) f = some none ∧ d = some dd ∧ H1 dd = some (.xd fs) ∧ fs.lookup f = some v ∧ Q v H1
theorem i_xfA (k : te σ H fun x H1 => gXfA K a cls d n x H1 Q) : tXfA K a cls d n te σ H Q := k
theorem g_xfA {C dd : Addr} {fs : List (Str × V)} {v : V} (T : XfC K C) (hn : PySem.W.findIn K (.ref C) n = some none) (h : H dd = some (.xd fs)) (l : fs.lookup n = some v) (k : Q v H) : gXfA K a (.ref C) (some dd) n (.ref a) H Q := ⟨C, dd, fs, v, rfl, rfl, T, hn, rfl, h, l, k⟩
theorem g_isx {D dd : Addr} {fs : List (Str × V)} {c : V} {cv : Value} {b : Bool} (T : XisC K D) (h : H dd = some (.xd fs)) (hc : ClsV c cv) (e : PySem.W.kitOne K (.ref D) cv = some b) (k : Q (.bl b) H) : rIsX K a (.ref D) (some dd) [.ref a, c] H Q := ⟨D, dd, fs, c, b, rfl, rfl, T, rfl, h, .inl ⟨cv, hc, e⟩, k⟩
theorem g_isxT {D dd tp : Addr} {fs : List (Str × V)} {cs : List V} {us : List Value} {b : Bool} (T : XisC K D) (h : H dd = some (.xd fs)) (ht : H tp = some (.tup cs)) (hc : Paired ClsV cs us) (e : PySem.W.kitAny K (.ref D) us = some b) (k : Q (.bl b) H) : rIsX K a (.ref D) (some dd) [.ref a, .ref tp] H Q := ⟨D, dd, fs, _, b, rfl, rfl, T, rfl, h, .inr ⟨tp, cs, us, rfl, ht, hc, e⟩, k⟩
end
end Eg

set_option Elab.async false
set_option linter.all false
set_option maxRecDepth 100000
set_option maxHeartbeats 4000000
namespace Eg
open PySem PySem.Spec PyProof.Rows L2 Rl SX
theorem bt_ValueError : bootBuiltins "ValueError" = some (.type "ValueError") := by decide +kernel
/-! lists of numbers compared -/
section
variable {K : PySem.W.Frag} {H : Hp} {Q : VK}
theorem dp_ints : ∀ (l : List Int), DpAll K H (l.map V.int) (l.map PyData.int)
  | [] => .nil
  | a :: l => .cons (.int _) (dp_ints l)
theorem can_ints : ∀ (l : List Int), PyData.canLayAll0 (l.map PyData.int) = true
  | [] => rfl
  | a :: l => by
    show (PyData.canLay0 (.int a) && PyData.canLayAll0 (l.map PyData.int)) = true
    rw [can_ints l]
    rfl
theorem dep_ints : ∀ (l : List Int), PyData.depthAll (l.map PyData.int) = 0
  | [] => rfl
  | a :: l => by
    show max (PyData.depth (.int a)) (PyData.depthAll (l.map PyData.int)) = 0
    rw [dep_ints l]
    rfl
theorem sh_ints (l : List Int) : SeqAt.shaped (.list (l.map PyData.int)) = true := by
  show (PyData.canLayAll0 _ && decide (PyData.depthAll _ + 1 ≤ 64)) = true
  rw [can_ints l, dep_ints]
  rfl
theorem eqv_int (a b : Int) : PyData.eqv (.int a) (.int b) = decide (a = b) := by
  simp only [PyData.eqv]
  by_cases h : a = b <;> simp [h]
theorem eqv_ints : ∀ (l m : List Int), PyData.eqvAll (l.map PyData.int) (m.map PyData.int) = decide (l = m)
  | [], [] => by simp [PyData.eqvAll]
  | [], _ :: _ => by simp [PyData.eqvAll]
  | _ :: _, [] => by simp [PyData.eqvAll]
  | a :: l, b :: m => by
    simp only [List.map_cons, PyData.eqvAll, eqv_int, eqv_ints l m]
    by_cases h : a = b <;> by_cases h2 : l = m <;> simp [h, h2]
theorem eqv_intsL (l m : List Int) : PyData.eqv (.list (l.map PyData.int)) (.list (m.map PyData.int)) = decide (l = m) := by
  simp only [PyData.eqv]
  exact eqv_ints l m
theorem g_eqB {a b : Bool} (k : Q (.bl (decide (a = b))) H) : uEq K (.bl a) (.bl b) H Q := by
  refine .inr ⟨.bool a, .bool b, .bl a, .bl b, rfl, rfl, ?_⟩
  have z : PyData.eqv (.bool a) (.bool b) = decide (a = b) := by cases a <;> cases b <;> rfl
  rw [z]
  exact k
theorem g_eqIL {a b : Addr} {l m : List Int} (ha : SqL K H a (l.map V.int)) (hb : SqL K H b (m.map V.int)) (k : Q (.bl (decide (l = m))) H) : uEq K (.ref a) (.ref b) H Q := by
  refine .inr ⟨.list (l.map .int), .list (m.map .int), .lst ha (dp_ints l), .lst hb (dp_ints m), sh_ints l, sh_ints m, ?_⟩
  rw [eqv_intsL]
  exact k
theorem g_neIL {a b : Addr} {l m : List Int} (ha : SqL K H a (l.map V.int)) (hb : SqL K H b (m.map V.int)) (k : Q (.bl (!decide (l = m))) H) : uNe K (.ref a) (.ref b) H Q := by
  refine .inr ⟨.list (l.map .int), .list (m.map .int), .lst ha (dp_ints l), .lst hb (dp_ints m), sh_ints l, sh_ints m, ?_⟩
  rw [eqv_intsL]
  exact k
end
end Eg

set_option Elab.async false
set_option linter.all false
set_option maxRecDepth 100000
set_option maxHeartbeats 4000000
namespace Eg
open PySem PySem.Spec PyProof.Rows L2 Rl SX
section
variable {K : PySem.W.Frag} {σ : L2.St} {H : Hp} {Q : VK} {ta tb : TE}
def gLstRg (x y : V) (H : Hp) (Q : VK) : Prop := ∃ i j, x = .int i ∧ y = .int j ∧ RgOk i j ∧ ∀ q, H q = none → Q (.ref q) (upd H q (.lst (rgV i j)))
theorem i_lstRg2 (k : ta σ H fun x H1 => tb σ H1 fun y H2 => gLstRg x y H2 Q) : tLstRg (tRg2 ta tb) σ H Q := k
theorem g_lstRg {i j : Int} (h : -1000 ≤ i ∧ i ≤ j ∧ j ≤ 100000) (k : ∀ q H', H q = none → Same H H' → H' q = some (.lst ((List.range (j - i).toNat).map fun m => V.int (i + (m : Nat)))) → Q (.ref q) H') : gLstRg (.int i) (.int j) H Q :=
  ⟨i, j, rfl, rfl, ⟨by omega, by omega, by omega, by omega, by omega⟩, fun q hq => k q _ hq (fun b u e => by rw [upd_ne (ne_of_none e hq)]; exact e) upd_same⟩
theorem g_notInL {p : Addr} {a : Int} {xs : List V} (h : SqL K H p xs) (hf : xs.all flatV = true) (k : Q (.bl (!inV (.int a) xs)) H) : uNotIn K (.int a) (.ref p) H Q := .inr ⟨p, xs, rfl, .inl h, rfl, hf, k⟩
theorem g_inL {p : Addr} {a : Int} {xs : List V} (h : SqL K H p xs) (hf : xs.all flatV = true) (k : Q (.bl (inV (.int a) xs)) H) : uIn K (.int a) (.ref p) H Q := .inr ⟨p, xs, rfl, .inl h, rfl, hf, k⟩
theorem pi_listK {X : Cx} {tg e : Expr} {te : TE} (h : X.K = K) (he : PE X e te) : PI X tg e (iList K te) := by subst h; exact pi_list he
theorem g_neB {a b : Bool} (k : Q (.bl (!decide (a = b))) H) : uNe K (.bl a) (.bl b) H Q := by
  refine .inr ⟨.bool a, .bool b, .bl a, .bl b, rfl, rfl, ?_⟩
  have z : PyData.eqv (.bool a) (.bool b) = decide (a = b) := by cases a <;> cases b <;> rfl
  rw [z]
  exact k
def uIsB : R2 := fun x y H Q => ∃ a b, x = .bl a ∧ y = .bl b ∧ Q (.bl (decide (a = b))) H
theorem op_uIsB {X : Cx} : OpR X (compareOp .Is) uIsB := op_is_bl
def uNotB : R2 := fun x y H Q => ∃ a b, x = .bl a ∧ y = .bl b ∧ Q (.bl (!decide (a = b))) H
theorem op_uNotB {X : Cx} : OpR X (compareOp .IsNot) uNotB := op_isnot_bl
theorem g_isB {a b : Bool} (k : Q (.bl (decide (a = b))) H) : uIsB (.bl a) (.bl b) H Q := ⟨a, b, rfl, rfl, k⟩
theorem g_notB {a b : Bool} (k : Q (.bl (!decide (a = b))) H) : uNotB (.bl a) (.bl b) H Q := ⟨a, b, rfl, rfl, k⟩
theorem flat_ints (l : List Int) : (l.map V.int).all flatV = true := by
  rw [List.all_eq_true]
  intro x hx
  obtain ⟨i, _, rfl⟩ := List.mem_map.mp hx
  rfl
end
end Eg

set_option Elab.async false
set_option linter.all false
set_option maxRecDepth 100000
set_option maxHeartbeats 4000000
/-! a lambda kept in a local name, handed to defs by it -/
namespace Eg
open PySem PySem.Spec PyProof.Rows L2 Rl SX
/-- the context with one more pinned object -/
abbrev lamp (X : Cx) (p : Addr × Obj) : Cx := { X with pn := X.pn ++ [p] }
theorem ok_in {X : Cx} {p : Addr × Obj} (o : X.Ok) : (lamp X p).Ok := ⟨o.mod, o.kind, o.glob, o.blt, o.above, o.inj, o.has, o.cab, o.hd, o.frames, o.stk, o.exf, o.bs, o.bsz, o.noex, o.exfs, o.funs, o.frf⟩
theorem ok_out {X : Cx} {p : Addr × Obj} (o : (lamp X p).Ok) : X.Ok := ⟨o.mod, o.kind, o.glob, o.blt, o.above, o.inj, o.has, o.cab, o.hd, o.frames, o.stk, o.exf, o.bs, o.bsz, o.noex, o.exfs, o.funs, o.frf⟩
section
variable {X : Cx} {p : Addr × Obj} {pins : List (Addr × Obj)} {σ : L2.St} {H : Hp} {s : Shared}
theorem inv_in (I : Inv X (p :: pins) σ H s) : Inv (lamp X p) pins σ H s :=
  ⟨ok_in I.ok, I.os, I.bare, I.base, I.loc, I.cell, I.free, I.freeC, fun q hq => I.pin q (by
    have hq : q ∈ (X.pn ++ [p]) ++ pins := hq
    simpa using hq), I.hok, I.len⟩
theorem inv_out (I : Inv (lamp X p) pins σ H s) : Inv X (p :: pins) σ H s :=
  ⟨ok_out I.ok, I.os, I.bare, I.base, I.loc, I.cell, I.free, I.freeC, fun q hq => I.pin q (by
    show q ∈ (X.pn ++ [p]) ++ pins
    simpa using hq), I.hok, I.len⟩
theorem inv_drop (I : Inv (lamp X p) pins σ H s) : Inv X pins σ H s := (inv_out I).pins_of fun q hq => (inv_out I).pin q (List.mem_append_right _ (List.mem_cons_of_mem _ hq))
theorem sp_drop {D : Ends} {f : Flow} {s' : Shared} (h : SP (lamp X p) pins D f s') : SP X pins D f s' := by
  cases f with
  | next => obtain ⟨a, b, I, q⟩ := h; exact ⟨a, b, inv_drop I, q⟩
  | brk => obtain ⟨a, b, I, q⟩ := h; exact ⟨a, b, inv_drop I, q⟩
  | cont => obtain ⟨a, b, I, q⟩ := h; exact ⟨a, b, inv_drop I, q⟩
  | ret u => obtain ⟨v, a, b, I, r, q⟩ := h; exact ⟨v, a, b, inv_drop I, r, q⟩
end
/-- the lambda's object -/
abbrev lamO (X : Cx) (params : Arguments) (body : Expr) (scope : Scope) (pm : Value) (c' : Addr) (ctv : Value) : Obj := PySem.W.kla_obj "<lambda>" (X.env.qual ++ "<lambda>") params body scope (cloFrom X.env.cells scope.names []) pm c' ctv
def tLamS (T : List (Addr × Str)) (q : Str) (i : Nat) (tr : Addr → Addr → TS) : TS := fun D σ H => LamX.Tabs T H ∧ ∀ f c' H1, LamX.ExtN H H1 → LamX.Tabs T H1 → H1 c' = some (LamX.CodeO c' q) → tr f c' D (σ.set i (some (.ref f))) H1
section
variable {X : Cx} {T : List (Addr × Str)} {c P : Addr} {params : Arguments} {body : Expr} {scope : Scope} {lpos pos pos' : Pos} {i : Nat} {x : Str} {rest : List Stmt} {tr : Addr → Addr → TS}
theorem pss_lam (TB : LamX.TabB X.base X.mg c P) (hcode : X.env.code = .ref c) (hmT : (P, X.env.qual ++ "<lambda>") ∈ T) (hu : ∀ p ∈ T, p.1 = P → p.2 = X.env.qual ++ "<lambda>") (L : LamX.LamS X.env.scope scope) (hdef : defaultsOf params X.env = ([], []))
    (hN : X.N.Nodup) (hi : X.N[i]? = some x) (hx : Loc X.env.scope x) (hst : X.stack = X.env :: X.outer) (hfl : X.env.frame = some X.env.locals)
    (hr : ∀ (f c' : Addr) (pm ctv : Value), PSs (lamp X (f, lamO X params body scope pm c' ctv)) rest (tr f c'))
    (hs : swapsWith (.Lambda params body scope lpos) (some (.Name x pos')) pos.line X.env = pure false := by rfl) (hf : X.fn x = true ∨ X.env.scope.names.lookup x = some .local := by first | exact .inl rfl | exact .inr rfl | assumption) :
    PSs X (.Assign [.Name x pos'] (.Lambda params body scope lpos) pos :: rest) (tLamS T (X.env.qual ++ "<lambda>") i tr) := by
  refine ⟨fun pins s σ H D I h => ?_⟩
  obtain ⟨hT, h⟩ := h
  refine wpAny_execs_cons (wpAny_Assign_Name (LamX.lam_make2 I TB hcode hmT hu hT hdef (L.has I.ok) fun f c' pm' ctv H1 s1 I1 eN T1 hf1 hfn hfr hco => ?_) hs)
  rw [hst] at hfr
  have hfr2 : f ∉ X.env.locals :: frs X.outer := by
    have e : frs (X.env :: X.outer) = X.env.locals :: frs X.outer := by
      unfold frs
      rw [List.filterMap_cons, hfl]
    rwa [e] at hfr
  have hnl : f ≠ X.env.locals := fun z => hfr2 (by rw [z]; exact List.mem_cons_self)
  have hnf : f ∉ X.fs := fun z => hfr2 (List.mem_cons_of_mem _ z)
  have J1 : Inv X ((f, lamO X params body scope pm' c' ctv) :: pins) σ H1 s1 := I1.pins_of fun p hp => by
    rcases List.mem_cons.mp hp with z | z
    · rw [z]
      exact ⟨hf1, hfn, hnl, hnf, fun v z => nomatch z⟩
    · exact I1.pin p (List.mem_append_right _ z)
  refine store_ok J1 hN hi hx (v := .ref f) rfl (fun s2 J2 => ?_) hf
  exact thn ((hr f c' pm' ctv).run pins s2 _ H1 D (inv_in J2) (h f c' H1 eN T1 hco)) fun fl s3 q => sp_drop q
end
/-! the def called with it -/
def tFwdP (i : Nat) (f c' : Addr) (q : Str) (sp : (XK → Hp → VK → Prop) → Sp) (tb : XK → TE) (t : TA) : TE := fun σ H Q => σ[i]? = some (some (.ref f)) ∧ t σ H fun vs H1 => sp (fun E HZ Q' => HZ c' = some (LamX.CodeO c' q) ∧ tb E σ HZ Q') vs H1 Q E0
section
variable {X : Cx} {k kl i : Nat} {f c' : Addr} {a x : Str} {p1 p2 pos : Pos} {ps : List Str} {sp : (XK → Hp → VK → Prop) → Sp} {es : List Expr} {t : TA} {params : Arguments} {body : Expr} {scope : Scope} {pm ctv : Value} {tb : XK → TE}
theorem pe_fwdP (D : DfnL X.prog X.w X.K X.mg X.base k (kl + 1) x ps sp) (hr : Room k X.A) (hg : Gl X x) (L : LamX.LamS X.env.scope scope)
    (hbind : ∀ (q : Str) (cl : List (Str × Addr)) (pm cv ctv : Value), bindArgs (PySem.W.kla_fn "<lambda>" q params body scope cl pm cv ctv) ⟨[], []⟩ = pure [])
    (hbody : ∀ (A : Around) (outer : List Env) (s : Shared) (H : Hp) (E : XK) (f c' : Addr), Room kl (A.deeper (LamX.lamEnv X scope s.heap.objs.size f c')) → PE (LamX.lamCx X A outer s H E scope f c') body (tb E))
    (hst : X.stack = X.env :: X.outer) (hfl : X.env.frame = some X.env.locals)
    (ha : PA (lamp X (f, lamO X params body scope pm c' ctv)) es t)
    (hN : X.N[i]? = some a := by rfl) (hv : Vis X.env.scope a := by first | exact Or.inl rfl | exact Or.inr (Or.inl rfl) | exact Or.inr (Or.inr rfl)) (hd : (a == ("__debug__" : Str)) = false := by decide)
    (hcd : (a == ("__classdict__" : Str)) = false := by decide) (hdb : (x == ("__debug__" : Str)) = false := by decide)
    (he : starEach (.Name a p2 :: es) X.env = (false, eval (.Name a p2) X.env) :: starEach es X.env := by rfl) (hpl : (backTo pos (starEach es X.env)).any (·.1) = false := by rfl) :
    PE (lamp X (f, lamO X params body scope pm c' ctv)) (.Call (.Name x p1) (.Name a p2 :: es) [] pos) (tFwdP i f c' (X.env.qual ++ "<lambda>") sp tb t) := by
  obtain ⟨g, fd, F, hm, hk, hb⟩ := D.ex
  refine ⟨fun pins s σ H Q I h => ?_⟩
  obtain ⟨hs, ht⟩ := h
  refine wpAny_Call_Name_kw (ld_glob (X := X) (inv_drop I) hg hm ?_ hdb)
  refine PySem.W.callWith_K (h₀ := X.base) I.ok.mod.kin hk ?_ he hpl
  rw [he]
  show wpAny _ _ (spliced ((false, eval (.Name a p2) X.env) :: backTo pos (starEach es X.env))) _ _ _
  refine Calls.spliced_cons (thn ((pe_var (X := lamp X (f, lamO X params body scope pm c' ctv)) (pos := p2) (i := i) hN hv hd hcd).run pins _ σ H (fun v H1 => v = .ref f ∧ H1 = H) I ⟨.ref f, hs, rfl, rfl⟩) fun u s1 ⟨v, H1, I1, r1, ev, eH⟩ => ?_)
  subst ev eH
  cases r1
  refine thn (ha.run pos pins s1 σ H1 _ I1 ht) fun us s2 ⟨vs, H2, J2, r, q⟩ => ⟨J2.kIn, ?_⟩
  have I2 : Inv X ((f, lamO X params body scope pm c' ctv) :: pins) σ H2 s2 := inv_out J2
  obtain ⟨hf2, hn2, hnl, hnf, _⟩ := I2.pin (f, lamO X params body scope pm c' ctv) (List.mem_append_right _ List.mem_cons_self)
  have hfr : f ∉ frs X.stack := by
    rw [hst]
    have e : frs (X.env :: X.outer) = X.env.locals :: frs X.outer := by
      unfold frs
      rw [List.filterMap_cons, hfl]
    rw [e]
    exact fun z => (List.mem_cons.mp z).elim hnl hnf
  have hL : LamV X.prog X.w X.K X.mg X.base (kl + 1) (frs X.stack) f H2 s2.heap (fun E HZ Q' => HZ c' = some (LamX.CodeO c' (X.env.qual ++ "<lambda>")) ∧ tb E σ HZ Q') := by
    refine ⟨⟨_, _, _, _, _, _, _, _, hf2⟩, hn2, hfr, fun A outer s HZ Q' E hr' e0 u hcz => ?_⟩
    obtain ⟨hcz, ht⟩ := hcz
    have u0 := u
    obtain ⟨⟨oc, us', t', hoc, hdc, hvc⟩, _, _⟩ := e0.hok c' _ hcz
    have of1 : s.heap.get? f = some (lamO X params body scope pm c' ctv) := u.keep f _ hf2 hn2 hfr (by simp)
    refine PySem.W.kla_callFunE hr'.depth of1 rfl L.co L.gen rfl ⟨c', oc, us', t', rfl, hoc, hdc, hvc⟩ ?_
    rw [hbind]
    have hnl' : s.heap.NoLimit := e0.mod.nolimit.keeps fun b o e => (e0.bs b o e).1
    refine wpAny_pure (wpAny_newFunctionEnv (fun y hy => (L.own y hy).2) (fun y hy => absurd hy (by simp)) (fun h₁ hns hsb => ⟨hnl'.fresh _ hsb, ?_⟩) L.kind)
    have kp : ∀ b o, s.heap.get? b = some o → h₁.get? b = some o := fun b o e => hsb.extBut b o (Nat.ne_of_lt (Heap.lt_size e)) (Heap.get?_push_of_some _ e)
    have J := LamX.lam_start2 (E := E) (f := f) (c' := c') (tk := s.toks + ([] : List (Str × Value)).length) I2 L e0 hr'.hd u0 hns kp
    refine PySem.W.kla_codeExpr (wpAny_mono ((hbody A outer s HZ E f c' (hr'.deeper _)).run [] _ _ HZ Q' J ht) (fun v s' hq => ?_) fun e s' hq => hq)
    obtain ⟨w', H', J', rv, q⟩ := hq
    exact ⟨w', H', J'.os, J'.bare, J'.base, J'.hok, rv, q⟩
  refine thn (run_fnL (X := X) F hr hb I2 r hL q) fun u' s' hq => ?_
  obtain ⟨v, H3, I3, rv, q3⟩ := hq
  exact ⟨v, H3, inv_in I3, rv, q3⟩
end
section
variable {T : List (Addr × Str)} {q : Str} {i : Nat} {f c' : Addr} {tr : Addr → Addr → TS} {D : Ends} {σ : L2.St} {H : Hp} {Q : VK} {spl : (XK → Hp → VK → Prop) → Sp} {tb : XK → TE} {t : TA}
theorem i_lamS (hT : LamX.Tabs T H) (k : ∀ f c' H1, LamX.ExtN H H1 → LamX.Tabs T H1 → H1 c' = some (LamX.CodeO c' q) → tr f c' D (σ.set i (some (.ref f))) H1) : tLamS T q i tr D σ H := ⟨hT, k⟩
theorem i_fwdP (h : σ[i]? = some (some (.ref f))) (k : t σ H fun vs H1 => spl (fun E HZ Q' => HZ c' = some (LamX.CodeO c' q) ∧ tb E σ HZ Q') vs H1 Q E0) : tFwdP i f c' q spl tb t σ H Q := ⟨h, k⟩
end
end Eg

set_option Elab.async false
set_option linter.all false
set_option maxRecDepth 100000
set_option maxHeartbeats 4000000
/-! comprehensions with a test; lists counted, popped, repeated -/
namespace Eg
open PySem PySem.Spec PyProof.Rows L2 Rl SX
section
variable {K : PySem.W.Frag} {σ : L2.St} {H : Hp} {te : TE} {tt : TT} {Q : VK} {g : TG} {J : It} {n : Nat} {vs : List Nat}
theorem l_itF {G : Hp → Prop} {Y : Nat → Hp → V → Hp → Prop} (w : Walk J n G Y) (Pv : Addr → Nat → List V → Hp → Prop) (h0 : ∀ D, H D = none → Pv D 0 [] (upd H D (.lst []))) (hG : ∀ D i acc H', H D = none → i ≤ n → H' D = some (.lst acc) → Pv D i acc H' → G H')
    (hs : ∀ D i x acc H1 H', H D = none → i < n → H1 D = some (.lst acc) → Pv D i acc H1 → Y i H1 x H' → g x (wipe σ vs) H' fun σ2 H2 => wipe σ2 vs = wipe σ vs ∧ tt σ2 H2 fun b H3 =>
      if b = true then te σ2 H3 (fun y H4 => ∃ acc, H4 D = some (.lst acc) ∧ acc.length < sizeLine ∧ Pv D (i + 1) (acc ++ [y]) (upd H4 D (.lst (acc ++ [y])))) else ∃ acc, H3 D = some (.lst acc) ∧ Pv D (i + 1) acc H3)
    (hd : ∀ D acc H', H D = none → H' D = some (.lst acc) → Pv D n acc H' → Q (.ref D) H') : gLc J g tt te vs σ H Q := fun D hD => by
  -- the turns' own promises hold by weakening what stands behind them
  exact lc_it w (fun i H' => ∃ acc, H' D = some (.lst acc) ∧ Pv D i acc H') ⟨[], upd_same, h0 D hD⟩ (fun i H' hi ⟨acc, e, p⟩ => hG D i acc H' hD hi e p)
    (fun i x H1 H' hi ⟨acc, e, p⟩ y => by
      have h := hs D i x acc H1 H' hD hi e p y
      have ee : (fun (y : V) (H4 : Hp) => ∃ acc, H4 D = some (.lst acc) ∧ acc.length < sizeLine ∧ Pv D (i + 1) (acc ++ [y]) (upd H4 D (.lst (acc ++ [y])))) = fun (y : V) (H4 : Hp) => ∃ acc, H4 D = some (.lst acc) ∧ acc.length < sizeLine ∧ ∃ acc', (upd H4 D (.lst (acc ++ [y]))) D = some (.lst acc') ∧ Pv D (i + 1) acc' (upd H4 D (.lst (acc ++ [y]))) := by
        funext y H4
        refine propext ⟨fun ⟨acc, a, b, c⟩ => ⟨acc, a, b, _, upd_same, c⟩, fun ⟨acc, a, b, acc', c, d⟩ => ⟨acc, a, b, ?_⟩⟩
        rw [upd_same] at c
        cases c
        exact d
      rw [ee] at h
      exact h) (fun H' ⟨acc, e, p⟩ => hd D acc H' hD e p)
theorem g_countI {p : Addr} {ns : List Int} {k : Int} (h : SqL K H p (ns.map V.int)) (q : Q (.int (ns.count k : Nat)) H) : rCntI K (.ref p) [.int k] H Q := ⟨p, ns, k, rfl, rfl, h, q⟩
theorem g_allB {p : Addr} {bs : List Bool} (h : SqL K H p (bs.map V.bl)) (q : Q (.bl (bs.all id)) H) : rAll K [.ref p] H Q := ⟨p, bs, rfl, h, q⟩
theorem g_rep {p : Addr} {k : Nat} {xs : List V} (h : H p = some (.lst xs)) (hk : k < 2 ^ 62) (hz : xs.length * k ≤ sizeLine) (q : ∀ r H', H r = none → Same H H' → H' r = some (.lst (List.replicate k xs).flatten) → Q (.ref r) H') : rRep (.ref p) (.int (k : Int)) H Q :=
  ⟨p, k, xs, rfl, rfl, h, by omega, by omega, by rw [Int.toNat_natCast]; exact hz, fun r hr => q r _ hr (fun b u e => by rw [upd_ne (ne_of_none e hr)]; exact e) (by rw [Int.toNat_natCast]; exact upd_same)⟩
theorem g_minI {p : Addr} {ns : List Int} (h : SqL K H p (ns.map V.int)) (h0 : 0 < ns.length) (q : ∀ m, m ∈ ns → (∀ y, y ∈ ns → m ≤ y) → Q (.int m) H) : rMin K [.ref p] H Q := ⟨p, ns, rfl, h, h0, q⟩
theorem g_maxI {p : Addr} {ns : List Int} (h : SqL K H p (ns.map V.int)) (h0 : 0 < ns.length) (q : ∀ m, m ∈ ns → (∀ y, y ∈ ns → y ≤ m) → Q (.int m) H) : rMax K [.ref p] H Q := ⟨p, ns, rfl, h, h0, q⟩
end
end Eg

set_option Elab.async false
set_option linter.all false
set_option maxRecDepth 100000
set_option maxHeartbeats 4000000
/-! a method of a built-in type in a comprehension -/
namespace Eg
open PySem PySem.Spec PyProof.Rows L2 Rl SX
section
variable {X : Cx} {K : PySem.W.Frag} {o e : Expr} {es : List Expr} {to : TE} {t : TA} {name : Str} {apos cpos : Pos} {T id : String} {r : V → List V → Hp → VK → Prop}
theorem pe_bmX (hK : X.K = K) (pa : PlainAttrs T) (slot : Slot T name id) (hty : typeOf (.builtin id) = pure (.type "method_descriptor")) (hm : MtR X id r) (ho : PE X o to) (ha : PA X (e :: es) t)
    (hbase : attributeBase o name X.env (eval o X.env) = eval o X.env := by rfl)
    (hfew : ((backTo cpos (starEach (e :: es) X.env)).all (fun x => !x.1) && (backToKw cpos (keywordEach [] X.env)).all (fun x => x.1.isSome)
      && decide ((e :: es).length + ([] : List Keyword).length + (if ([] : List Keyword).isEmpty then 0 else 1) < 30)) = true := by rfl)
    (hline : (apos.endLine == cpos.line) = true := by rfl) (hs : starEach (e :: es) X.env = (false, eval e X.env) :: starEach es X.env := by rfl) (hplain : (backTo cpos (starEach es X.env)).any (·.1) = false := by rfl) :
    PE X (.Call (.Attribute o name apos) (e :: es) [] cpos) (tBM K T r to t) := by
  subst hK
  exact pe_bm pa slot hty hm ho ha hbase hfew hline hs hplain
def tIfT (t : TT) (ta tb : TT) : TT := fun σ H Q => t σ H fun c H1 => if c = true then ta σ H1 Q else tb σ H1 Q
theorem i_ifT {t ta tb : TT} {σ : L2.St} {H : Hp} {Q : Bool → Hp → Prop} (h : t σ H fun c H1 => if c = true then ta σ H1 Q else tb σ H1 Q) : tIfT t ta tb σ H Q := h
theorem pt_ifExp {tc ta tb : TT} {c a b : Expr} {pos : Pos} (hc : PT X c tc) (ha : PT X a ta) (hb : PT X b tb) : PT X (.IfExp c a b pos) (tIfT tc ta tb) := by
  refine ⟨fun pins s σ H Q I h => ?_⟩
  show wpAny _ _ (do if ← isTrue c X.env (eval c X.env) then isTrue a X.env (eval a X.env) else isTrue b X.env (eval b X.env)) _ _ s
  refine wpAny_bind (wpAny_mono (hc.run pins s σ H _ I h) (fun d s1 ⟨H1, I1, q1⟩ => ?_) fun _ _ x => x)
  cases d with
  | true => exact ha.run pins s1 σ H1 Q I1 q1
  | false => exact hb.run pins s1 σ H1 Q I1 q1
end
end Eg

set_option Elab.async false
set_option linter.all false
set_option maxRecDepth 100000
set_option maxHeartbeats 4000000
namespace L25
open PySem PySem.Spec PyProof.Rows L2 Rl Eg
def top (i : Nat) : Stmt := PySem.Challenge.pw_whoeverwins_k25_tables_and_what_a_meetin.main.body.getD i (.Pass ⟨0, 0, 0, 0⟩)
abbrev st_BadLadder_init : Stmt := inClass (top 6) 0
abbrev n_BadLadder_init : List Str := ["self", "rung"]
theorem sc_BadLadder_init : FnScope n_BadLadder_init ["self", "rung"] (defScope st_BadLadder_init) := ⟨rfl, rfl, rfl, by decide +kernel, rfl, by decide +kernel, by decide +kernel⟩
abbrev st_BadTable_init : Stmt := inClass (top 7) 0
abbrev n_BadTable_init : List Str := ["self", "rung"]
theorem sc_BadTable_init : FnScope n_BadTable_init ["self", "rung"] (defScope st_BadTable_init) := ⟨rfl, rfl, rfl, by decide +kernel, rfl, by decide +kernel, by decide +kernel⟩
abbrev st_grown : Stmt := top 17
abbrev n_grown : List Str := ["lanes", "falls", "first", "charges", "row", "rung", "fall", "low"]
theorem sc_grown : FnScope n_grown ["lanes", "falls", "first", "charges"] (defScope st_grown) := ⟨rfl, rfl, rfl, by decide +kernel, rfl, by decide +kernel, by decide +kernel⟩
abbrev st_load_rows : Stmt := top 18
abbrev n_load_rows : List Str := ["lanes", "falls", "rungs", "a", "b"]
theorem sc_load_rows : FnScope n_load_rows ["lanes", "falls"] (defScope st_load_rows) := ⟨rfl, rfl, rfl, by decide +kernel, rfl, by decide +kernel, by decide +kernel⟩
abbrev st_head_row : Stmt := top 19
abbrev n_head_row : List Str := ["lanes", "falls", "_"]
theorem sc_head_row : FnScope n_head_row ["lanes", "falls"] (defScope st_head_row) := ⟨rfl, rfl, rfl, by decide +kernel, rfl, by decide +kernel, by decide +kernel⟩
abbrev st_worth_row : Stmt := top 20
abbrev n_worth_row : List Str := ["lanes", "falls", "_"]
theorem sc_worth_row : FnScope n_worth_row ["lanes", "falls"] (defScope st_worth_row) := ⟨rfl, rfl, rfl, by decide +kernel, rfl, by decide +kernel, by decide +kernel⟩
abbrev st_wrong_count : Stmt := top 22
abbrev n_wrong_count : List Str := ["counts", "rungs", "rung", "many"]
theorem sc_wrong_count : FnScope n_wrong_count ["counts", "rungs"] (defScope st_wrong_count) := ⟨rfl, rfl, rfl, by decide +kernel, rfl, by decide +kernel, by decide +kernel⟩
abbrev st_Table_init : Stmt := inClass (top 23) 0
abbrev n_Table_init : List Str := ["self", "ladder", "counts", "wrong"]
theorem sc_Table_init : FnScope n_Table_init ["self", "ladder", "counts"] (defScope st_Table_init) := ⟨rfl, rfl, rfl, by decide +kernel, rfl, by decide +kernel, by decide +kernel⟩
abbrev st_Table_ladder : Stmt := inClass (top 23) 2
abbrev n_Table_ladder : List Str := ["self"]
theorem sc_Table_ladder : FnScope n_Table_ladder ["self"] (defScope st_Table_ladder) := ⟨rfl, rfl, rfl, by decide +kernel, rfl, by decide +kernel, by decide +kernel⟩
abbrev st_Table_counts : Stmt := inClass (top 23) 3
abbrev n_Table_counts : List Str := ["self"]
theorem sc_Table_counts : FnScope n_Table_counts ["self"] (defScope st_Table_counts) := ⟨rfl, rfl, rfl, by decide +kernel, rfl, by decide +kernel, by decide +kernel⟩
abbrev st_Table_on : Stmt := inClass (top 23) 4
abbrev n_Table_on : List Str := ["self", "a"]
theorem sc_Table_on : FnScope n_Table_on ["self", "a"] (defScope st_Table_on) := ⟨rfl, rfl, rfl, by decide +kernel, rfl, by decide +kernel, by decide +kernel⟩
abbrev st_Table_players : Stmt := inClass (top 23) 5
abbrev n_Table_players : List Str := ["self"]
theorem sc_Table_players : FnScope n_Table_players ["self"] (defScope st_Table_players) := ⟨rfl, rfl, rfl, by decide +kernel, rfl, by decide +kernel, by decide +kernel⟩
abbrev st_Table_above : Stmt := inClass (top 23) 6
abbrev n_Table_above : List Str := ["self", "a"]
theorem sc_Table_above : FnScope n_Table_above ["self", "a"] (defScope st_Table_above) := ⟨rfl, rfl, rfl, by decide +kernel, rfl, by decide +kernel, by decide +kernel⟩
abbrev st_Table_heads : Stmt := inClass (top 23) 7
abbrev n_Table_heads : List Str := ["self", "b", "many"]
theorem sc_Table_heads : FnScope n_Table_heads ["self"] (defScope st_Table_heads) := ⟨rfl, rfl, rfl, by decide +kernel, rfl, by decide +kernel, by decide +kernel⟩
abbrev st_Table_worth : Stmt := inClass (top 23) 8
abbrev n_Table_worth : List Str := ["self", "b", "many"]
theorem sc_Table_worth : FnScope n_Table_worth ["self"] (defScope st_Table_worth) := ⟨rfl, rfl, rfl, by decide +kernel, rfl, by decide +kernel, by decide +kernel⟩
abbrev st_Table_load : Stmt := inClass (top 23) 9
abbrev n_Table_load : List Str := ["self", "a", "b", "many"]
theorem sc_Table_load : FnScope n_Table_load ["self", "a"] (defScope st_Table_load) := ⟨rfl, rfl, rfl, by decide +kernel, rfl, by decide +kernel, by decide +kernel⟩
abbrev st_Table_put : Stmt := inClass (top 23) 10
abbrev n_Table_put : List Str := ["self", "a", "many"]
theorem sc_Table_put : FnScope n_Table_put ["self", "a", "many"] (defScope st_Table_put) := ⟨rfl, rfl, rfl, by decide +kernel, rfl, by decide +kernel, by decide +kernel⟩
abbrev st_Table_take : Stmt := inClass (top 23) 11
abbrev n_Table_take : List Str := ["self", "a", "many"]
theorem sc_Table_take : FnScope n_Table_take ["self", "a", "many"] (defScope st_Table_take) := ⟨rfl, rfl, rfl, by decide +kernel, rfl, by decide +kernel, by decide +kernel⟩
abbrev st_Table_moved : Stmt := inClass (top 23) 12
abbrev n_Table_moved : List Str := ["self", "a", "many", "counts"]
theorem sc_Table_moved : FnScope n_Table_moved ["self", "a", "many"] (defScope st_Table_moved) := ⟨rfl, rfl, rfl, by decide +kernel, rfl, by decide +kernel, by decide +kernel⟩
abbrev st_Table_level : Stmt := inClass (top 23) 13
abbrev n_Table_level : List Str := ["self", "lanes", "rungs", "rung"]
theorem sc_Table_level : FnScope n_Table_level ["self"] (defScope st_Table_level) := ⟨rfl, rfl, rfl, by decide +kernel, rfl, by decide +kernel, by decide +kernel⟩
abbrev st_Table_check_called : Stmt := inClass (top 23) 14
abbrev n_Table_check_called : List Str := ["self", "rungs", "at", "lanes", "known", "rung", "many"]
theorem sc_Table_check_called : FnScope n_Table_check_called ["self", "rungs", "at"] (defScope st_Table_check_called) := ⟨rfl, rfl, rfl, by decide +kernel, rfl, by decide +kernel, by decide +kernel⟩
abbrev st_Table_behind : Stmt := inClass (top 23) 15
abbrev n_Table_behind : List Str := ["self", "rungs", "at", "counts", "position", "rung", "target", "crowned"]
theorem sc_Table_behind : FnScope n_Table_behind ["self", "rungs", "at"] (defScope st_Table_behind) := ⟨rfl, rfl, rfl, by decide +kernel, rfl, by decide +kernel, by decide +kernel⟩
abbrev st_bound : Stmt := top 27
abbrev n_bound : List Str := ["what", "number"]
theorem sc_bound : FnScope n_bound ["what", "number"] (defScope st_bound) := ⟨rfl, rfl, rfl, by decide +kernel, rfl, by decide +kernel, by decide +kernel⟩
abbrev st_wrong_rung : Stmt := top 29
abbrev n_wrong_rung : List Str := ["lanes", "falls", "rung", "fall", "highest"]
theorem sc_wrong_rung : FnScope n_wrong_rung ["lanes", "falls"] (defScope st_wrong_rung) := ⟨rfl, rfl, rfl, by decide +kernel, rfl, by decide +kernel, by decide +kernel⟩
abbrev st_Ladder_init : Stmt := inClass (top 30) 0
abbrev n_Ladder_init : List Str := ["self", "lanes", "falls", "returns", "wrong"]
theorem sc_Ladder_init : FnScope n_Ladder_init ["self", "lanes", "falls", "returns"] (defScope st_Ladder_init) := ⟨rfl, rfl, rfl, by decide +kernel, rfl, by decide +kernel, by decide +kernel⟩
abbrev st_Ladder_same_as : Stmt := inClass (top 30) 1
abbrev n_Ladder_same_as : List Str := ["self", "other"]
theorem sc_Ladder_same_as : FnScope n_Ladder_same_as ["self", "other"] (defScope st_Ladder_same_as) := ⟨rfl, rfl, rfl, by decide +kernel, rfl, by decide +kernel, by decide +kernel⟩
abbrev st_Ladder_lanes : Stmt := inClass (top 30) 2
abbrev n_Ladder_lanes : List Str := ["self"]
theorem sc_Ladder_lanes : FnScope n_Ladder_lanes ["self"] (defScope st_Ladder_lanes) := ⟨rfl, rfl, rfl, by decide +kernel, rfl, by decide +kernel, by decide +kernel⟩
abbrev st_Ladder_rungs : Stmt := inClass (top 30) 3
abbrev n_Ladder_rungs : List Str := ["self"]
theorem sc_Ladder_rungs : FnScope n_Ladder_rungs ["self"] (defScope st_Ladder_rungs) := ⟨rfl, rfl, rfl, by decide +kernel, rfl, by decide +kernel, by decide +kernel⟩
abbrev st_Ladder_falls : Stmt := inClass (top 30) 4
abbrev n_Ladder_falls : List Str := ["self"]
theorem sc_Ladder_falls : FnScope n_Ladder_falls ["self"] (defScope st_Ladder_falls) := ⟨rfl, rfl, rfl, by decide +kernel, rfl, by decide +kernel, by decide +kernel⟩
abbrev st_Ladder_returns : Stmt := inClass (top 30) 5
abbrev n_Ladder_returns : List Str := ["self"]
theorem sc_Ladder_returns : FnScope n_Ladder_returns ["self"] (defScope st_Ladder_returns) := ⟨rfl, rfl, rfl, by decide +kernel, rfl, by decide +kernel, by decide +kernel⟩
abbrev st_Ladder_check_rung : Stmt := inClass (top 30) 6
abbrev n_Ladder_check_rung : List Str := ["self", "rung"]
theorem sc_Ladder_check_rung : FnScope n_Ladder_check_rung ["self", "rung"] (defScope st_Ladder_check_rung) := ⟨rfl, rfl, rfl, by decide +kernel, rfl, by decide +kernel, by decide +kernel⟩
abbrev st_Ladder_check_place : Stmt := inClass (top 30) 7
abbrev n_Ladder_check_place : List Str := ["self", "place"]
theorem sc_Ladder_check_place : FnScope n_Ladder_check_place ["self", "place"] (defScope st_Ladder_check_place) := ⟨rfl, rfl, rfl, by decide +kernel, rfl, by decide +kernel, by decide +kernel⟩
abbrev st_Ladder_fall : Stmt := inClass (top 30) 8
abbrev n_Ladder_fall : List Str := ["self", "a"]
theorem sc_Ladder_fall : FnScope n_Ladder_fall ["self", "a"] (defScope st_Ladder_fall) := ⟨rfl, rfl, rfl, by decide +kernel, rfl, by decide +kernel, by decide +kernel⟩
abbrev st_Ladder_load : Stmt := inClass (top 30) 11
abbrev n_Ladder_load : List Str := ["self", "a", "b"]
theorem sc_Ladder_load : FnScope n_Ladder_load ["self", "a", "b"] (defScope st_Ladder_load) := ⟨rfl, rfl, rfl, by decide +kernel, rfl, by decide +kernel, by decide +kernel⟩
abbrev st_Ladder_heads : Stmt := inClass (top 30) 12
abbrev n_Ladder_heads : List Str := ["self", "b"]
theorem sc_Ladder_heads : FnScope n_Ladder_heads ["self", "b"] (defScope st_Ladder_heads) := ⟨rfl, rfl, rfl, by decide +kernel, rfl, by decide +kernel, by decide +kernel⟩
abbrev st_Ladder_worth : Stmt := inClass (top 30) 13
abbrev n_Ladder_worth : List Str := ["self", "b"]
theorem sc_Ladder_worth : FnScope n_Ladder_worth ["self", "b"] (defScope st_Ladder_worth) := ⟨rfl, rfl, rfl, by decide +kernel, rfl, by decide +kernel, by decide +kernel⟩
abbrev st_Ladder_weights : Stmt := inClass (top 30) 14
abbrev n_Ladder_weights : List Str := ["self", "row"]
theorem sc_Ladder_weights : FnScope n_Ladder_weights ["self"] (defScope st_Ladder_weights) := ⟨rfl, rfl, rfl, by decide +kernel, rfl, by decide +kernel, by decide +kernel⟩
abbrev st_law_e_named : Stmt := top 32
abbrev n_law_e_named : List Str := ["raised", "found"]
theorem sc_law_e_named : FnScope n_law_e_named ["raised"] (defScope st_law_e_named) := ⟨rfl, rfl, rfl, by decide +kernel, rfl, by decide +kernel, by decide +kernel⟩
abbrev st_law_e_asked : Stmt := top 33
abbrev n_law_e_asked : List Str := ["call", "told", "raised"]
theorem sc_law_e_asked : FnScope n_law_e_asked ["call"] (defScope st_law_e_asked) := ⟨rfl, rfl, rfl, by decide +kernel, rfl, by decide +kernel, by decide +kernel⟩
abbrev st_law_e_refused : Stmt := top 34
abbrev n_law_e_refused : List Str := ["call", "due", "told"]
theorem sc_law_e_refused : FnScope n_law_e_refused ["call", "due"] (defScope st_law_e_refused) := ⟨rfl, rfl, rfl, by decide +kernel, rfl, by decide +kernel, by decide +kernel⟩
abbrev st_law_e_let : Stmt := top 35
abbrev n_law_e_let : List Str := ["call"]
theorem sc_law_e_let : FnScope n_law_e_let ["call"] (defScope st_law_e_let) := ⟨rfl, rfl, rfl, by decide +kernel, rfl, by decide +kernel, by decide +kernel⟩
abbrev st_law_e_falls : Stmt := top 36
abbrev n_law_e_falls : List Str := ["stock", "rungs", "kind", "falls", "rung"]
theorem sc_law_e_falls : FnScope n_law_e_falls ["stock", "rungs"] (defScope st_law_e_falls) := ⟨rfl, rfl, rfl, by decide +kernel, rfl, by decide +kernel, by decide +kernel⟩
abbrev st_law_e_ladder : Stmt := top 37
abbrev n_law_e_ladder : List Str := ["stock", "least", "most", "widest", "rungs", "lanes"]
theorem sc_law_e_ladder : FnScope n_law_e_ladder ["stock", "least", "most", "widest"] (defScope st_law_e_ladder) := ⟨rfl, rfl, rfl, by decide +kernel, rfl, by decide +kernel, by decide +kernel⟩
abbrev st_law_e_low : Stmt := top 38
abbrev n_law_e_low : List Str := ["row", "fall"]
theorem sc_law_e_low : FnScope n_law_e_low ["row", "fall"] (defScope st_law_e_low) := ⟨rfl, rfl, rfl, by decide +kernel, rfl, by decide +kernel, by decide +kernel⟩
abbrev st_law_e_loads : Stmt := top 39
abbrev n_law_e_loads : List Str := ["ladder", "lanes", "falls", "rows", "a", "row", "b"]
theorem sc_law_e_loads : FnScope n_law_e_loads ["ladder"] (defScope st_law_e_loads) := ⟨rfl, rfl, rfl, by decide +kernel, rfl, by decide +kernel, by decide +kernel⟩
abbrev st_law_e_heads : Stmt := top 40
abbrev n_law_e_heads : List Str := ["ladder", "lanes", "falls", "row", "b"]
theorem sc_law_e_heads : FnScope n_law_e_heads ["ladder"] (defScope st_law_e_heads) := ⟨rfl, rfl, rfl, by decide +kernel, rfl, by decide +kernel, by decide +kernel⟩
abbrev st_law_e_worths : Stmt := top 41
abbrev n_law_e_worths : List Str := ["ladder", "loads", "b", "row"]
theorem sc_law_e_worths : FnScope n_law_e_worths ["ladder"] (defScope st_law_e_worths) := ⟨rfl, rfl, rfl, by decide +kernel, rfl, by decide +kernel, by decide +kernel⟩
abbrev st_law_e_sum : Stmt := top 42
abbrev n_law_e_sum : List Str := ["row", "counts", "b"]
theorem sc_law_e_sum : FnScope n_law_e_sum ["row", "counts"] (defScope st_law_e_sum) := ⟨rfl, rfl, rfl, by decide +kernel, rfl, by decide +kernel, by decide +kernel⟩
abbrev st_law_e_behind : Stmt := top 43
abbrev n_law_e_behind : List Str := ["ladder", "counts", "rungs", "at", "after", "crowned", "position", "rung", "goes"]
theorem sc_law_e_behind : FnScope n_law_e_behind ["ladder", "counts", "rungs", "at"] (defScope st_law_e_behind) := ⟨rfl, rfl, rfl, by decide +kernel, rfl, by decide +kernel, by decide +kernel⟩
abbrev st_law_stock : Stmt := top 44
abbrev n_law_stock : List Str := ["script", "at", "cell", "size", "small", "one"]
theorem sc_law_stock : FnScope n_law_stock ["script", "at"] (defScope st_law_stock) := ⟨rfl, rfl, rfl, by decide +kernel, rfl, by decide +kernel, by decide +kernel⟩
abbrev st_law_draw : Stmt := top 45
abbrev n_law_draw : List Str := ["stock", "many", "found"]
theorem sc_law_draw : FnScope n_law_draw ["stock", "many"] (defScope st_law_draw) := ⟨rfl, rfl, rfl, by decide +kernel, rfl, by decide +kernel, by decide +kernel⟩
abbrev st_law_matches : Stmt := top 46
abbrev n_law_matches : List Str := ["answer", "due", "at"]
theorem sc_law_matches : FnScope n_law_matches ["answer", "due"] (defScope st_law_matches) := ⟨rfl, rfl, rfl, by decide +kernel, rfl, by decide +kernel, by decide +kernel⟩
abbrev st_law_k25_counts : Stmt := top 47
abbrev n_law_k25_counts : List Str := ["stock", "plain", "counts", "rung"]
theorem sc_law_k25_counts : FnScope n_law_k25_counts ["stock", "plain"] (defScope st_law_k25_counts) := ⟨rfl, rfl, rfl, by decide +kernel, rfl, by decide +kernel, by decide +kernel⟩
abbrev st_law_k25_tellers : Stmt := top 48
abbrev n_law_k25_tellers : List Str := ["table", "plain", "counts", "loads", "a", "level", "rung"]
theorem sc_law_k25_tellers : FnScope n_law_k25_tellers ["table", "plain", "counts"] (defScope st_law_k25_tellers) := ⟨rfl, rfl, rfl, by decide +kernel, rfl, by decide +kernel, by decide +kernel⟩
abbrev st_law_k25_called : Stmt := top 49
abbrev n_law_k25_called : List Str := ["stock", "plain", "counts", "lanes", "level", "left", "rung", "turn"]
theorem sc_law_k25_called : FnScope n_law_k25_called ["stock", "plain", "counts"] (defScope st_law_k25_called) := ⟨rfl, rfl, rfl, by decide +kernel, rfl, by decide +kernel, by decide +kernel⟩
abbrev st_law_k25_meetings : Stmt := top 50
abbrev n_law_k25_meetings : List Str := ["table", "plain", "counts", "rungs", "loads", "top", "at", "due", "crowned", "handed", "told", "a", "added"]
theorem sc_law_k25_meetings : FnScope n_law_k25_meetings ["table", "plain", "counts", "rungs"] (defScope st_law_k25_meetings) := ⟨rfl, rfl, rfl, by decide +kernel, rfl, by decide +kernel, by decide +kernel⟩
abbrev st_law_k25_fault : Stmt := top 51
abbrev n_law_k25_fault : List Str := ["plain", "counts", "rungs", "at", "rung"]
theorem sc_law_k25_fault : FnScope n_law_k25_fault ["plain", "counts", "rungs", "at"] (defScope st_law_k25_fault) := ⟨rfl, rfl, rfl, by decide +kernel, rfl, by decide +kernel, by decide +kernel⟩
abbrev st_law_k25_bent : Stmt := top 52
abbrev n_law_k25_bent : List Str := ["stock", "table", "plain", "counts", "rungs", "turn", "bent", "at", "way", "kind", "where", "fault", "call"]
theorem sc_law_k25_bent : FnScope n_law_k25_bent ["stock", "table", "plain", "counts", "rungs"] (defScope st_law_k25_bent) := ⟨rfl, rfl, rfl, by decide +kernel, rfl, by decide +kernel, by decide +kernel⟩
abbrev st_law_k25_moves : Stmt := top 53
abbrev n_law_k25_moves : List Str := ["stock", "table", "plain", "counts", "turn", "rung", "many", "due"]
theorem sc_law_k25_moves : FnScope n_law_k25_moves ["stock", "table", "plain", "counts"] (defScope st_law_k25_moves) := ⟨rfl, rfl, rfl, by decide +kernel, rfl, by decide +kernel, by decide +kernel⟩
abbrev st_law_k25_rungs_refused : Stmt := top 54
abbrev n_law_k25_rungs_refused : List Str := ["table", "rungs", "a"]
theorem sc_law_k25_rungs_refused : FnScope n_law_k25_rungs_refused ["table", "rungs"] (defScope st_law_k25_rungs_refused) := ⟨rfl, rfl, rfl, by decide +kernel, rfl, by decide +kernel, by decide +kernel⟩
abbrev st_law : Stmt := top 55
abbrev n_law : List Str := ["script", "stock", "plain", "counts", "ladder", "handed", "table", "other", "told", "rungs", "rung"]
theorem sc_law : FnScope n_law ["script"] (defScope st_law) := ⟨rfl, rfl, rfl, by decide +kernel, rfl, by decide +kernel, by decide +kernel⟩
structure Ad where
  a_Table : Addr
  a_Ladder : Addr
  a_LIMITS : Addr
  a_TOLD : Addr
  a_BadLadder : Addr
  a_BadTable : Addr
  a_WinsError : Addr
  a_TooMany : Addr
  a_BadDemand : Addr
  a_BadText : Addr
  a_BadSeason : Addr
  a_BadCode : Addr
  a_BadEvent : Addr
  a_BadFoe : Addr
  a_BadPaper : Addr
  a_BadDisk : Addr
  a_BadDeed : Addr
  c_law_k25_bent : Addr
  p_law_k25_bent : Addr
  c_law_k25_moves : Addr
  p_law_k25_moves : Addr
  c_law_k25_rungs_refused : Addr
  p_law_k25_rungs_refused : Addr
structure Txt (K : PySem.W.Frag) (w : World) (mg : Str → Option Value) (Z : Ad) : Prop where
  b_ValueError : mg "ValueError" = none
  b_abs : mg "abs" = none
  b_all : mg "all" = none
  b_bool : mg "bool" = none
  b_enumerate : mg "enumerate" = none
  b_int : mg "int" = none
  b_isinstance : mg "isinstance" = none
  b_len : mg "len" = none
  b_list : mg "list" = none
  b_max : mg "max" = none
  b_min : mg "min" = none
  b_range : mg "range" = none
  b_reversed : mg "reversed" = none
  b_str : mg "str" = none
  b_sum : mg "sum" = none
  b_tuple : mg "tuple" = none
  c_LIMITS : mg "LIMITS" = some (.ref Z.a_LIMITS)
  k_LIMITS_lines : KDct K w Z.a_LIMITS "lines" (.int 300)
  k_LIMITS_words : KDct K w Z.a_LIMITS "words" (.int 60)
  k_LIMITS_number : KDct K w Z.a_LIMITS "number" (.int 1000000000000000000000000000000)
  k_LIMITS_depth : KDct K w Z.a_LIMITS "depth" (.int 20)
  k_LIMITS_blocks : KDct K w Z.a_LIMITS "blocks" (.int 12)
  k_LIMITS_lanes : KDct K w Z.a_LIMITS "lanes" (.int 6)
  k_LIMITS_rungs : KDct K w Z.a_LIMITS "rungs" (.int 40)
  k_LIMITS_ways : KDct K w Z.a_LIMITS "ways" (.int 8)
  k_LIMITS_promises : KDct K w Z.a_LIMITS "promises" (.int 20)
  k_LIMITS_variables : KDct K w Z.a_LIMITS "variables" (.int 4)
  k_LIMITS_states : KDct K w Z.a_LIMITS "states" (.int 400)
  k_LIMITS_rows : KDct K w Z.a_LIMITS "rows" (.int 600)
  k_LIMITS_events : KDct K w Z.a_LIMITS "events" (.int 3000)
  k_LIMITS_meetings : KDct K w Z.a_LIMITS "meetings" (.int 3000)
  k_LIMITS_housemeetings : KDct K w Z.a_LIMITS "housemeetings" (.int 400)
  k_LIMITS_rounds : KDct K w Z.a_LIMITS "rounds" (.int 300)
  k_LIMITS_late : KDct K w Z.a_LIMITS "late" (.int 6)
  k_LIMITS_plan : KDct K w Z.a_LIMITS "plan" (.int 200)
  k_LIMITS_nodes : KDct K w Z.a_LIMITS "nodes" (.int 2000)
  k_LIMITS_players : KDct K w Z.a_LIMITS "players" (.int 60)
  k_LIMITS_log : KDct K w Z.a_LIMITS "log" (.int 2000)
  k_LIMITS_signs : KDct K w Z.a_LIMITS "signs" (.int 2000)
  c_OUT : ∃ t, mg "OUT" = some (.int (-1) t)
  c_TOLD : mg "TOLD" = some (.ref Z.a_TOLD)
  k_TOLD_blocks : KDct K w Z.a_TOLD "blocks" (.str "depth")
  k_TOLD_states : KDct K w Z.a_TOLD "states" (.str "variables")
  k_TOLD_housemeetings : KDct K w Z.a_TOLD "housemeetings" (.str "meetings")
  o_BadLadder : OexC K Z.a_BadLadder
  x_BadLadder : XfC K Z.a_BadLadder
  g_BadLadder : mg "BadLadder" = some (.ref Z.a_BadLadder)
  m_BadLadder : PySem.W.exmOne K (.ref Z.a_BadLadder) (.ref Z.a_BadLadder) = some true
  n_BadLadder_rung : PySem.W.findIn K (.ref Z.a_BadLadder) "rung" = some none
  o_BadTable : OexC K Z.a_BadTable
  x_BadTable : XfC K Z.a_BadTable
  g_BadTable : mg "BadTable" = some (.ref Z.a_BadTable)
  m_BadTable : PySem.W.exmOne K (.ref Z.a_BadTable) (.ref Z.a_BadTable) = some true
  n_BadTable_rung : PySem.W.findIn K (.ref Z.a_BadTable) "rung" = some none
  g_WinsError : mg "WinsError" = some (.ref Z.a_WinsError)
  wg_WinsError : PySem.W.specialIn K (.ref Z.a_WinsError) "__getattribute__" = some (some (.builtin "type.__getattribute__"))
  wr_WinsError : PySem.W.readsIn K Z.a_WinsError (.type "type") = true
  wv_WinsError : PySem.W.findCls K (.ref Z.a_WinsError) (.type "type") "__init__" = some (.val (.builtin "ValueError.__init__"))
  g_TooMany : mg "TooMany" = some (.ref Z.a_TooMany)
  g_BadDemand : mg "BadDemand" = some (.ref Z.a_BadDemand)
  g_BadText : mg "BadText" = some (.ref Z.a_BadText)
  g_BadSeason : mg "BadSeason" = some (.ref Z.a_BadSeason)
  g_BadCode : mg "BadCode" = some (.ref Z.a_BadCode)
  g_BadEvent : mg "BadEvent" = some (.ref Z.a_BadEvent)
  g_BadFoe : mg "BadFoe" = some (.ref Z.a_BadFoe)
  g_BadPaper : mg "BadPaper" = some (.ref Z.a_BadPaper)
  g_BadDisk : mg "BadDisk" = some (.ref Z.a_BadDisk)
  g_BadDeed : mg "BadDeed" = some (.ref Z.a_BadDeed)
  xi_BadLadder : XisC K Z.a_BadLadder
  ki_BadLadder_TooMany : PySem.W.kitOne K (.ref Z.a_BadLadder) (.ref Z.a_TooMany) = some false
  ki_BadLadder_BadLadder : PySem.W.kitOne K (.ref Z.a_BadLadder) (.ref Z.a_BadLadder) = some true
  ki_BadLadder_BadTable : PySem.W.kitOne K (.ref Z.a_BadLadder) (.ref Z.a_BadTable) = some false
  ki_BadLadder_BadDemand : PySem.W.kitOne K (.ref Z.a_BadLadder) (.ref Z.a_BadDemand) = some false
  ki_BadLadder_ValueError : PySem.W.kitOne K (.ref Z.a_BadLadder) (.type "ValueError") = some true
  ka_BadLadder_0 : PySem.W.kitAny K (.ref Z.a_BadLadder) [.ref Z.a_BadText, .ref Z.a_BadSeason, .ref Z.a_BadCode, .ref Z.a_BadEvent, .ref Z.a_BadFoe, .ref Z.a_BadPaper, .ref Z.a_BadDisk, .ref Z.a_BadDeed] = some false
  mm_BadLadder_WinsError : PySem.W.exmOne K (.ref Z.a_BadLadder) (.ref Z.a_WinsError) = some true
  xi_BadTable : XisC K Z.a_BadTable
  ki_BadTable_TooMany : PySem.W.kitOne K (.ref Z.a_BadTable) (.ref Z.a_TooMany) = some false
  ki_BadTable_BadLadder : PySem.W.kitOne K (.ref Z.a_BadTable) (.ref Z.a_BadLadder) = some false
  ki_BadTable_BadTable : PySem.W.kitOne K (.ref Z.a_BadTable) (.ref Z.a_BadTable) = some true
  ki_BadTable_BadDemand : PySem.W.kitOne K (.ref Z.a_BadTable) (.ref Z.a_BadDemand) = some false
  ki_BadTable_ValueError : PySem.W.kitOne K (.ref Z.a_BadTable) (.type "ValueError") = some true
  ka_BadTable_0 : PySem.W.kitAny K (.ref Z.a_BadTable) [.ref Z.a_BadText, .ref Z.a_BadSeason, .ref Z.a_BadCode, .ref Z.a_BadEvent, .ref Z.a_BadFoe, .ref Z.a_BadPaper, .ref Z.a_BadDisk, .ref Z.a_BadDeed] = some false
  mm_BadTable_WinsError : PySem.W.exmOne K (.ref Z.a_BadTable) (.ref Z.a_WinsError) = some true
  l_Table : Cls K Z.a_Table
  n_Table_ladder_kept : NoAttr K Z.a_Table "ladder_kept"
  n_Table_counts_list : NoAttr K Z.a_Table "counts_list"
  l_Ladder : Cls K Z.a_Ladder
  n_Ladder_lanes_number : NoAttr K Z.a_Ladder "lanes_number"
  n_Ladder_falls_list : NoAttr K Z.a_Ladder "falls_list"
  n_Ladder_returns_kept : NoAttr K Z.a_Ladder "returns_kept"
  n_Ladder_loads_table : NoAttr K Z.a_Ladder "loads_table"
  n_Ladder_heads_list : NoAttr K Z.a_Ladder "heads_list"
  n_Ladder_worths_list : NoAttr K Z.a_Ladder "worths_list"
  f_BadLadder_init : ∃ f fd, Fun K "__init__" "BadLadder.__init__" st_BadLadder_init f fd ∧ PySem.W.findIn K (.ref Z.a_BadLadder) "__init__" = some (some (.ref f)) ∧ PySem.W.typeIn K (.ref f) = some (.type "function") ∧ Binds K fd ["self", "rung"] []
  f_BadTable_init : ∃ f fd, Fun K "__init__" "BadTable.__init__" st_BadTable_init f fd ∧ PySem.W.findIn K (.ref Z.a_BadTable) "__init__" = some (some (.ref f)) ∧ PySem.W.typeIn K (.ref f) = some (.type "function") ∧ Binds K fd ["self", "rung"] []
  f_grown : ∃ f fd, Fun K "grown" "grown" st_grown f fd ∧ mg "grown" = some (.ref f) ∧ Binds K fd ["lanes", "falls", "first", "charges"] []
  f_load_rows : ∃ f fd, Fun K "load_rows" "load_rows" st_load_rows f fd ∧ mg "load_rows" = some (.ref f) ∧ Binds K fd ["lanes", "falls"] []
  f_head_row : ∃ f fd, Fun K "head_row" "head_row" st_head_row f fd ∧ mg "head_row" = some (.ref f) ∧ Binds K fd ["lanes", "falls"] []
  f_worth_row : ∃ f fd, Fun K "worth_row" "worth_row" st_worth_row f fd ∧ mg "worth_row" = some (.ref f) ∧ Binds K fd ["lanes", "falls"] []
  f_wrong_count : ∃ f fd, Fun K "wrong_count" "wrong_count" st_wrong_count f fd ∧ mg "wrong_count" = some (.ref f) ∧ Binds K fd ["counts", "rungs"] []
  f_Table_init : ∃ f fd, Fun K "__init__" "Table.__init__" st_Table_init f fd ∧ Mk K Z.a_Table f ∧ mg "Table" = some (.ref Z.a_Table) ∧ Binds K fd ["self", "ladder", "counts"] []
  f_Table_ladder : ∃ f fd, Fun K "ladder" "Table.ladder" st_Table_ladder f fd ∧ Meth K Z.a_Table "ladder" f ∧ Binds K fd ["self"] []
  f_Table_counts : ∃ f fd, Fun K "counts" "Table.counts" st_Table_counts f fd ∧ Meth K Z.a_Table "counts" f ∧ Binds K fd ["self"] []
  f_Table_on : ∃ f fd, Fun K "on" "Table.on" st_Table_on f fd ∧ Meth K Z.a_Table "on" f ∧ Binds K fd ["self", "a"] []
  f_Table_players : ∃ f fd, Fun K "players" "Table.players" st_Table_players f fd ∧ Meth K Z.a_Table "players" f ∧ Binds K fd ["self"] []
  f_Table_above : ∃ f fd, Fun K "above" "Table.above" st_Table_above f fd ∧ Meth K Z.a_Table "above" f ∧ Binds K fd ["self", "a"] []
  f_Table_heads : ∃ f fd, Fun K "heads" "Table.heads" st_Table_heads f fd ∧ Meth K Z.a_Table "heads" f ∧ Binds K fd ["self"] []
  f_Table_worth : ∃ f fd, Fun K "worth" "Table.worth" st_Table_worth f fd ∧ Meth K Z.a_Table "worth" f ∧ Binds K fd ["self"] []
  f_Table_load : ∃ f fd, Fun K "load" "Table.load" st_Table_load f fd ∧ Meth K Z.a_Table "load" f ∧ Binds K fd ["self", "a"] []
  f_Table_put : ∃ f fd, Fun K "put" "Table.put" st_Table_put f fd ∧ Meth K Z.a_Table "put" f ∧ Binds K fd ["self", "a", "many"] []
  f_Table_take : ∃ f fd, Fun K "take" "Table.take" st_Table_take f fd ∧ Meth K Z.a_Table "take" f ∧ Binds K fd ["self", "a", "many"] []
  f_Table_moved : ∃ f fd, Fun K "moved" "Table.moved" st_Table_moved f fd ∧ Meth K Z.a_Table "moved" f ∧ Binds K fd ["self", "a", "many"] []
  f_Table_level : ∃ f fd, Fun K "level" "Table.level" st_Table_level f fd ∧ Meth K Z.a_Table "level" f ∧ Binds K fd ["self"] []
  f_Table_check_called : ∃ f fd, Fun K "check_called" "Table.check_called" st_Table_check_called f fd ∧ Meth K Z.a_Table "check_called" f ∧ Binds K fd ["self", "rungs", "at"] []
  f_Table_behind : ∃ f fd, Fun K "behind" "Table.behind" st_Table_behind f fd ∧ Meth K Z.a_Table "behind" f ∧ Binds K fd ["self", "rungs", "at"] []
  f_bound : ∃ f fd, Fun K "bound" "bound" st_bound f fd ∧ mg "bound" = some (.ref f) ∧ Binds K fd ["what", "number"] []
  f_wrong_rung : ∃ f fd, Fun K "wrong_rung" "wrong_rung" st_wrong_rung f fd ∧ mg "wrong_rung" = some (.ref f) ∧ Binds K fd ["lanes", "falls"] []
  f_Ladder_init : ∃ f fd, Fun K "__init__" "Ladder.__init__" st_Ladder_init f fd ∧ Mk K Z.a_Ladder f ∧ mg "Ladder" = some (.ref Z.a_Ladder) ∧ Binds K fd ["self", "lanes", "falls", "returns"] []
  f_Ladder_same_as : ∃ f fd, Fun K "same_as" "Ladder.same_as" st_Ladder_same_as f fd ∧ Meth K Z.a_Ladder "same_as" f ∧ Binds K fd ["self", "other"] []
  f_Ladder_lanes : ∃ f fd, Fun K "lanes" "Ladder.lanes" st_Ladder_lanes f fd ∧ Meth K Z.a_Ladder "lanes" f ∧ Binds K fd ["self"] []
  f_Ladder_rungs : ∃ f fd, Fun K "rungs" "Ladder.rungs" st_Ladder_rungs f fd ∧ Meth K Z.a_Ladder "rungs" f ∧ Binds K fd ["self"] []
  f_Ladder_falls : ∃ f fd, Fun K "falls" "Ladder.falls" st_Ladder_falls f fd ∧ Meth K Z.a_Ladder "falls" f ∧ Binds K fd ["self"] []
  f_Ladder_returns : ∃ f fd, Fun K "returns" "Ladder.returns" st_Ladder_returns f fd ∧ Meth K Z.a_Ladder "returns" f ∧ Binds K fd ["self"] []
  f_Ladder_check_rung : ∃ f fd, Fun K "check_rung" "Ladder.check_rung" st_Ladder_check_rung f fd ∧ Meth K Z.a_Ladder "check_rung" f ∧ Binds K fd ["self", "rung"] []
  f_Ladder_check_place : ∃ f fd, Fun K "check_place" "Ladder.check_place" st_Ladder_check_place f fd ∧ Meth K Z.a_Ladder "check_place" f ∧ Binds K fd ["self", "place"] []
  f_Ladder_fall : ∃ f fd, Fun K "fall" "Ladder.fall" st_Ladder_fall f fd ∧ Meth K Z.a_Ladder "fall" f ∧ Binds K fd ["self", "a"] []
  f_Ladder_load : ∃ f fd, Fun K "load" "Ladder.load" st_Ladder_load f fd ∧ Meth K Z.a_Ladder "load" f ∧ Binds K fd ["self", "a", "b"] []
  f_Ladder_heads : ∃ f fd, Fun K "heads" "Ladder.heads" st_Ladder_heads f fd ∧ Meth K Z.a_Ladder "heads" f ∧ Binds K fd ["self", "b"] []
  f_Ladder_worth : ∃ f fd, Fun K "worth" "Ladder.worth" st_Ladder_worth f fd ∧ Meth K Z.a_Ladder "worth" f ∧ Binds K fd ["self", "b"] []
  f_Ladder_weights : ∃ f fd, Fun K "weights" "Ladder.weights" st_Ladder_weights f fd ∧ Meth K Z.a_Ladder "weights" f ∧ Binds K fd ["self"] []
  f_law_e_named : ∃ f fd, Fun K "_law_e_named" "_law_e_named" st_law_e_named f fd ∧ mg "_law_e_named" = some (.ref f) ∧ Binds K fd ["raised"] []
  f_law_e_asked : ∃ f fd, Fun K "_law_e_asked" "_law_e_asked" st_law_e_asked f fd ∧ mg "_law_e_asked" = some (.ref f) ∧ Binds K fd ["call"] []
  f_law_e_refused : ∃ f fd, Fun K "_law_e_refused" "_law_e_refused" st_law_e_refused f fd ∧ mg "_law_e_refused" = some (.ref f) ∧ Binds K fd ["call", "due"] []
  f_law_e_let : ∃ f fd, Fun K "_law_e_let" "_law_e_let" st_law_e_let f fd ∧ mg "_law_e_let" = some (.ref f) ∧ Binds K fd ["call"] []
  f_law_e_falls : ∃ f fd, Fun K "_law_e_falls" "_law_e_falls" st_law_e_falls f fd ∧ mg "_law_e_falls" = some (.ref f) ∧ Binds K fd ["stock", "rungs"] []
  f_law_e_ladder : ∃ f fd, Fun K "_law_e_ladder" "_law_e_ladder" st_law_e_ladder f fd ∧ mg "_law_e_ladder" = some (.ref f) ∧ Binds K fd ["stock", "least", "most", "widest"] []
  f_law_e_low : ∃ f fd, Fun K "_law_e_low" "_law_e_low" st_law_e_low f fd ∧ mg "_law_e_low" = some (.ref f) ∧ Binds K fd ["row", "fall"] []
  f_law_e_loads : ∃ f fd, Fun K "_law_e_loads" "_law_e_loads" st_law_e_loads f fd ∧ mg "_law_e_loads" = some (.ref f) ∧ Binds K fd ["ladder"] []
  f_law_e_heads : ∃ f fd, Fun K "_law_e_heads" "_law_e_heads" st_law_e_heads f fd ∧ mg "_law_e_heads" = some (.ref f) ∧ Binds K fd ["ladder"] []
  f_law_e_worths : ∃ f fd, Fun K "_law_e_worths" "_law_e_worths" st_law_e_worths f fd ∧ mg "_law_e_worths" = some (.ref f) ∧ Binds K fd ["ladder"] []
  f_law_e_sum : ∃ f fd, Fun K "_law_e_sum" "_law_e_sum" st_law_e_sum f fd ∧ mg "_law_e_sum" = some (.ref f) ∧ Binds K fd ["row", "counts"] []
  f_law_e_behind : ∃ f fd, Fun K "_law_e_behind" "_law_e_behind" st_law_e_behind f fd ∧ mg "_law_e_behind" = some (.ref f) ∧ Binds K fd ["ladder", "counts", "rungs", "at"] []
  f_law_stock : ∃ f fd, Fun K "_law_stock" "_law_stock" st_law_stock f fd ∧ mg "_law_stock" = some (.ref f) ∧ Binds K fd ["script", "at"] []
  f_law_draw : ∃ f fd, Fun K "_law_draw" "_law_draw" st_law_draw f fd ∧ mg "_law_draw" = some (.ref f) ∧ Binds K fd ["stock", "many"] []
  f_law_matches : ∃ f fd, Fun K "_law_matches" "_law_matches" st_law_matches f fd ∧ mg "_law_matches" = some (.ref f) ∧ Binds K fd ["answer", "due"] []
  f_law_k25_counts : ∃ f fd, Fun K "_law_k25_counts" "_law_k25_counts" st_law_k25_counts f fd ∧ mg "_law_k25_counts" = some (.ref f) ∧ Binds K fd ["stock", "plain"] []
  f_law_k25_tellers : ∃ f fd, Fun K "_law_k25_tellers" "_law_k25_tellers" st_law_k25_tellers f fd ∧ mg "_law_k25_tellers" = some (.ref f) ∧ Binds K fd ["table", "plain", "counts"] []
  f_law_k25_called : ∃ f fd, Fun K "_law_k25_called" "_law_k25_called" st_law_k25_called f fd ∧ mg "_law_k25_called" = some (.ref f) ∧ Binds K fd ["stock", "plain", "counts"] []
  f_law_k25_meetings : ∃ f fd, Fun K "_law_k25_meetings" "_law_k25_meetings" st_law_k25_meetings f fd ∧ mg "_law_k25_meetings" = some (.ref f) ∧ Binds K fd ["table", "plain", "counts", "rungs"] []
  f_law_k25_fault : ∃ f fd, Fun K "_law_k25_fault" "_law_k25_fault" st_law_k25_fault f fd ∧ mg "_law_k25_fault" = some (.ref f) ∧ Binds K fd ["plain", "counts", "rungs", "at"] []
  f_law_k25_bent : ∃ f fd, Fun K "_law_k25_bent" "_law_k25_bent" st_law_k25_bent f fd ∧ fd.code = .ref Z.c_law_k25_bent ∧ mg "_law_k25_bent" = some (.ref f) ∧ Binds K fd ["stock", "table", "plain", "counts", "rungs"] []
  f_law_k25_moves : ∃ f fd, Fun K "_law_k25_moves" "_law_k25_moves" st_law_k25_moves f fd ∧ fd.code = .ref Z.c_law_k25_moves ∧ mg "_law_k25_moves" = some (.ref f) ∧ Binds K fd ["stock", "table", "plain", "counts"] []
  f_law_k25_rungs_refused : ∃ f fd, Fun K "_law_k25_rungs_refused" "_law_k25_rungs_refused" st_law_k25_rungs_refused f fd ∧ fd.code = .ref Z.c_law_k25_rungs_refused ∧ mg "_law_k25_rungs_refused" = some (.ref f) ∧ Binds K fd ["table", "rungs"] []
  f_law : ∃ f fd, Fun K "law" "law" st_law f fd ∧ mg "law" = some (.ref f) ∧ Binds K fd ["script"] []
def tabs (Z : Ad) : List (Addr × Str) := [(Z.p_law_k25_bent, lq "_law_k25_bent"), (Z.p_law_k25_moves, lq "_law_k25_moves"), (Z.p_law_k25_rungs_refused, lq "_law_k25_rungs_refused")]
structure Bas (Z : Ad) (mg : Str → Option Value) (base : Heap) : Prop where
  b_law_k25_bent : LamX.TabB base mg Z.c_law_k25_bent Z.p_law_k25_bent
  b_law_k25_moves : LamX.TabB base mg Z.c_law_k25_moves Z.p_law_k25_moves
  b_law_k25_rungs_refused : LamX.TabB base mg Z.c_law_k25_rungs_refused Z.p_law_k25_rungs_refused
  ne_law_k25_moves_law_k25_bent : Z.p_law_k25_moves ≠ Z.p_law_k25_bent
  ne_law_k25_rungs_refused_law_k25_bent : Z.p_law_k25_rungs_refused ≠ Z.p_law_k25_bent
  ne_law_k25_rungs_refused_law_k25_moves : Z.p_law_k25_rungs_refused ≠ Z.p_law_k25_moves
theorem tabs_law_k25_bent (Z : Ad) : (Z.p_law_k25_bent, lq "_law_k25_bent") ∈ tabs Z := by simp [tabs]
theorem tabu_law_k25_bent {Z : Ad} {mg : Str → Option Value} {base : Heap} (B : Bas Z mg base) : ∀ p ∈ tabs Z, p.1 = Z.p_law_k25_bent → p.2 = lq "_law_k25_bent" := by
  intro p hp e
  simp only [tabs, List.mem_cons, List.not_mem_nil, or_false] at hp
  rcases hp with rfl | rfl | rfl
  · rfl
  · exact absurd e B.ne_law_k25_moves_law_k25_bent
  · exact absurd e B.ne_law_k25_rungs_refused_law_k25_bent
theorem tabs_law_k25_moves (Z : Ad) : (Z.p_law_k25_moves, lq "_law_k25_moves") ∈ tabs Z := by simp [tabs]
theorem tabu_law_k25_moves {Z : Ad} {mg : Str → Option Value} {base : Heap} (B : Bas Z mg base) : ∀ p ∈ tabs Z, p.1 = Z.p_law_k25_moves → p.2 = lq "_law_k25_moves" := by
  intro p hp e
  simp only [tabs, List.mem_cons, List.not_mem_nil, or_false] at hp
  rcases hp with rfl | rfl | rfl
  · exact absurd e.symm B.ne_law_k25_moves_law_k25_bent
  · rfl
  · exact absurd e B.ne_law_k25_rungs_refused_law_k25_moves
theorem tabs_law_k25_rungs_refused (Z : Ad) : (Z.p_law_k25_rungs_refused, lq "_law_k25_rungs_refused") ∈ tabs Z := by simp [tabs]
theorem tabu_law_k25_rungs_refused {Z : Ad} {mg : Str → Option Value} {base : Heap} (B : Bas Z mg base) : ∀ p ∈ tabs Z, p.1 = Z.p_law_k25_rungs_refused → p.2 = lq "_law_k25_rungs_refused" := by
  intro p hp e
  simp only [tabs, List.mem_cons, List.not_mem_nil, or_false] at hp
  rcases hp with rfl | rfl | rfl
  · exact absurd e.symm B.ne_law_k25_rungs_refused_law_k25_bent
  · exact absurd e.symm B.ne_law_k25_rungs_refused_law_k25_moves
  · rfl
end L25

set_option Elab.async false
set_option linter.all false
set_option maxRecDepth 100000
set_option maxHeartbeats 4000000
/-! ladders: weights, slack, the rows from the top -/
namespace Ld
/-- sums over the first n -/
def sm (f : Nat → Int) : Nat → Int
  | 0 => 0
  | n + 1 => sm f n + f n
theorem sm_congr {f g : Nat → Int} : ∀ {n : Nat}, (∀ i, i < n → f i = g i) → sm f n = sm g n
  | 0, _ => rfl
  | n + 1, h => by rw [sm, sm, sm_congr fun i hi => h i (by omega), h n (by omega)]
theorem sm_add (f g : Nat → Int) : ∀ n, sm (fun i => f i + g i) n = sm f n + sm g n
  | 0 => rfl
  | n + 1 => by rw [sm, sm, sm, sm_add f g n]; omega
theorem sm_sub (f g : Nat → Int) : ∀ n, sm (fun i => f i - g i) n = sm f n - sm g n
  | 0 => rfl
  | n + 1 => by rw [sm, sm, sm, sm_sub f g n]; omega
theorem sm_mul (c : Int) (f : Nat → Int) : ∀ n, sm (fun i => c * f i) n = c * sm f n
  | 0 => by simp [sm]
  | n + 1 => by rw [sm, sm, sm_mul c f n, Int.mul_add]
theorem sm_zero : ∀ n, sm (fun _ => 0) n = 0
  | 0 => rfl
  | n + 1 => by rw [sm, sm_zero n]; rfl
/-- the sum of the one that is chosen -/
theorem sm_one (a : Nat) (x : Nat → Int) : ∀ n, sm (fun i => if i = a then x i else 0) n = if a < n then x a else 0
  | 0 => by simp [sm]
  | n + 1 => by
    rw [sm, sm_one a x n]
    by_cases h : n = a
    · subst h
      simp
    · by_cases h2 : a < n
      · rw [if_pos h2, if_neg h, if_pos (by omega)]; omega
      · rw [if_neg h2, if_neg h, if_neg (by omega)]; omega
theorem sm_swap (f : Nat → Nat → Int) (m : Nat) : ∀ n, sm (fun i => sm (fun j => f i j) m) n = sm (fun j => sm (fun i => f i j) n) m
  | 0 => by simp only [sm]; rw [sm_zero]
  | n + 1 => by
    simp only [sm]
    rw [sm_swap f m n, sm_add]
/-- what a fall finds -/
def lowV (v : Nat → Int) (f : Int) : Int := if f < 0 then 0 else v f.toNat
def grow (L : Int) (fs : Nat → Int) (x : Int) (ch : Nat → Int) : Nat → List Int
  | 0 => [x]
  | n + 1 => grow L fs x ch n ++ [L * (grow L fs x ch n).getD n 0 - (L - 1) * lowV (fun i => (grow L fs x ch n).getD i 0) (fs n) + ch n]
def gv (L : Int) (fs : Nat → Int) (x : Int) (ch : Nat → Int) (i : Nat) : Int := (grow L fs x ch i).getD i 0
theorem grow_len (L : Int) (fs : Nat → Int) (x : Int) (ch : Nat → Int) : ∀ n, (grow L fs x ch n).length = n + 1
  | 0 => rfl
  | n + 1 => by rw [grow, List.length_append, grow_len L fs x ch n]; rfl
theorem grow_get (L : Int) (fs : Nat → Int) (x : Int) (ch : Nat → Int) : ∀ n i, i ≤ n → (grow L fs x ch n).getD i 0 = gv L fs x ch i
  | 0, i, h => by
    have : i = 0 := by omega
    subst this
    rfl
  | n + 1, i, h => by
    by_cases e : i = n + 1
    · subst e; rfl
    · rw [← grow_get L fs x ch n i (by omega), grow, List.getD_eq_getElem?_getD, List.getD_eq_getElem?_getD, List.getElem?_append_left (by rw [grow_len]; omega)]
      exact List.getD_eq_getElem?_getD.symm
theorem gv_zero (L : Int) (fs : Nat → Int) (x : Int) (ch : Nat → Int) : gv L fs x ch 0 = x := rfl
theorem gv_succ {L : Int} {fs : Nat → Int} {x : Int} {ch : Nat → Int} {n : Nat} (h : fs n ≤ n) : gv L fs x ch (n + 1) = L * gv L fs x ch n - (L - 1) * lowV (gv L fs x ch) (fs n) + ch n := by
  have e : gv L fs x ch (n + 1) = (grow L fs x ch (n + 1)).getD (n + 1) 0 := rfl
  rw [e, grow, List.getD_eq_getElem?_getD, List.getElem?_append_right (by rw [grow_len]; omega), grow_len, Nat.sub_self, List.getElem?_cons_zero, Option.getD_some]
  rw [grow_get L fs x ch n n (Nat.le_refl _)]
  have z : lowV (fun i => (grow L fs x ch n).getD i 0) (fs n) = lowV (gv L fs x ch) (fs n) := by
    unfold lowV
    split
    · rfl
    · exact grow_get L fs x ch n _ (by omega)
  rw [z]
/-- the falls that are right -/
def OkF (fs : Nat → Int) : Prop := ∀ i, -1 ≤ fs i ∧ fs i ≤ i ∧ (0 < i → fs i ≤ (i : Int) - 1)
def dl (a b : Nat) : Int := if b = a then 1 else 0
/-- loads and heads -/
def ld (L : Int) (fs : Nat → Int) (a b : Nat) : Int := gv L fs 0 (dl a) b
def hd (L : Int) (fs : Nat → Int) (b : Nat) : Int := gv L fs 1 (fun _ => 0) b
theorem ld_zero {L : Int} {fs : Nat → Int} (ok : OkF fs) {a : Nat} : ∀ b, b ≤ a → ld L fs a b = 0 := by
  intro b
  induction b using Nat.strongRecOn with
  | _ b ih =>
    intro hb
    cases b with
    | zero => rfl
    | succ n =>
      show gv L fs 0 (dl a) (n + 1) = 0
      rw [gv_succ (ok n).2.1]
      have h1 : gv L fs 0 (dl a) n = 0 := ih n (by omega) (by omega)
      have h2 : lowV (gv L fs 0 (dl a)) (fs n) = 0 := by
        unfold lowV
        have := ok n
        split
        · rfl
        · exact ih _ (by omega) (by omega)
      rw [h1, h2]
      simp [dl]
      omega
theorem ld_succ {L : Int} {fs : Nat → Int} (ok : OkF fs) (a n : Nat) : ld L fs a (n + 1) = L * ld L fs a n - (L - 1) * lowV (ld L fs a) (fs n) + dl a n := gv_succ (ok n).2.1
theorem hd_succ {L : Int} {fs : Nat → Int} (ok : OkF fs) (n : Nat) : hd L fs (n + 1) = L * hd L fs n - (L - 1) * lowV (hd L fs) (fs n) := by
  have := gv_succ (L := L) (x := 1) (ch := fun _ => 0) (ok n).2.1
  rw [Int.add_zero] at this
  exact this
theorem low_ld {L : Int} {fs : Nat → Int} (ok : OkF fs) {a n : Nat} (h : n ≤ a) : lowV (ld L fs a) (fs n) = 0 := by
  unfold lowV
  have := ok n
  split
  · rfl
  · exact ld_zero ok _ (by omega)
theorem ld_one {L : Int} {fs : Nat → Int} (ok : OkF fs) (a : Nat) : ld L fs a (a + 1) = 1 := by
  rw [ld_succ ok, ld_zero ok a (Nat.le_refl _), low_ld ok (Nat.le_refl _)]
  simp [dl]
/-- the row ahead of the rung a's own -/
def pr (L : Int) (fs : Nat → Int) (a b : Nat) : Int := if a = 0 then hd L fs b else ld L fs (a - 1) b
theorem lowV_add (v w : Nat → Int) (f : Int) : lowV (fun b => v b + w b) f = lowV v f + lowV w f := by unfold lowV; split <;> simp
theorem lowV_sub (v w : Nat → Int) (f : Int) : lowV (fun b => v b - w b) f = lowV v f - lowV w f := by unfold lowV; split <;> simp
theorem lowV_mul (c : Int) (v : Nat → Int) (f : Int) : lowV (fun b => c * v b) f = c * lowV v f := by unfold lowV; split <;> simp
theorem lowV_sm (v : Nat → Nat → Int) (f : Int) (k : Nat) : lowV (fun b => sm (fun e => v e b) k) f = sm (fun e => lowV (v e) f) k := by
  unfold lowV
  split
  · rw [sm_zero]
  · rfl
theorem lowV_congr {v w : Nat → Int} {f : Int} (h : ∀ i : Nat, (i : Int) = f → v i = w i) : lowV v f = lowV w f := by
  unfold lowV
  split
  · rfl
  · exact h _ (by omega)
/-- the row ahead, told by the own one and the rows of the rungs that fall there -/
theorem pr_eq {L : Int} {fs : Nat → Int} (ok : OkF fs) {a k : Nat} (ha : a < k) : ∀ b, b ≤ k → pr L fs a b = dl a b + L * ld L fs a b - (L - 1) * sm (fun e => if fs e = a then ld L fs e b else 0) k := by
  intro b
  induction b using Nat.strongRecOn with
  | _ b ih =>
    intro hb
    cases b with
    | zero =>
      rw [ld_zero ok 0 (by omega), sm_congr (g := fun _ => 0) (fun i _ => by rw [ld_zero ok 0 (by omega)]; simp), sm_zero]
      unfold pr dl
      by_cases h : a = 0
      · rw [if_pos h, if_pos h.symm]; show (1 : Int) = _; simp
      · rw [if_neg h, if_neg (by omega), ld_zero ok 0 (by omega)]; simp
    | succ n =>
      have i1 := ih n (by omega) (by omega)
      have i2 : lowV (pr L fs a) (fs n) = lowV (fun b => dl a b + L * ld L fs a b - (L - 1) * sm (fun e => if fs e = a then ld L fs e b else 0) k) (fs n) :=
        lowV_congr fun i hi => ih i (by have := (ok n).2.1; omega) (by have := (ok n).2.1; omega)
      have e1 : pr L fs a (n + 1) = L * pr L fs a n - (L - 1) * lowV (pr L fs a) (fs n) + (if a = n + 1 then 1 else 0) := by
        unfold pr
        by_cases h : a = 0
        · simp only [h, if_true]
          rw [hd_succ ok]
          have : ¬ 0 = n + 1 := by omega
          rw [if_neg this]
          show _ = L * hd L fs n - (L - 1) * lowV (hd L fs) (fs n) + 0
          omega
        · simp only [if_neg h]
          rw [ld_succ ok]
          congr 1
          unfold dl
          by_cases h2 : a = n + 1
          · rw [if_pos h2, if_pos (by omega)]
          · rw [if_neg h2, if_neg (by omega)]
      have e2 : sm (fun e => if fs e = a then ld L fs e (n + 1) else 0) k = L * sm (fun e => if fs e = a then ld L fs e n else 0) k - (L - 1) * sm (fun e => lowV (fun b => if fs e = a then ld L fs e b else 0) (fs n)) k + (if fs n = a then 1 else 0) := by
        rw [← sm_mul, ← sm_mul, ← sm_sub]
        have : (if fs n = (a : Int) then (1 : Int) else 0) = sm (fun e => if e = n then (if fs e = (a : Int) then 1 else 0) else 0) k := by
          rw [sm_one n (fun e => if fs e = (a : Int) then 1 else 0), if_pos (show n < k by omega)]
        rw [this, ← sm_add]
        refine sm_congr fun e _ => ?_
        by_cases h : fs e = a
        · simp only [if_pos h]
          rw [ld_succ ok]
          congr 1
          unfold dl
          by_cases h2 : n = e
          · subst h2; simp
          · rw [if_neg h2, if_neg (fun z => h2 z.symm)]
        · simp only [if_neg h]
          have : lowV (fun _ => (0 : Int)) (fs n) = 0 := by unfold lowV; split <;> rfl
          rw [this]
          simp
      have e3 : lowV (dl a) (fs n) = if fs n = a then 1 else 0 := by
        unfold lowV dl
        have := (ok n).1
        by_cases h : fs n < 0
        · rw [if_pos h, if_neg (by omega)]
        · rw [if_neg h]
          by_cases h2 : fs n = a
          · rw [if_pos h2, if_pos (by omega)]
          · rw [if_neg h2, if_neg (by omega)]
      rw [lowV_sub, lowV_add, lowV_mul, lowV_mul, lowV_sm, e3] at i2
      rw [e1, i1, i2, e2, ld_succ ok]
      have hd1 : dl a (n + 1) = if a = n + 1 then 1 else 0 := by
        unfold dl
        by_cases h : a = n + 1
        · rw [if_pos h, if_pos h.symm]
        · rw [if_neg h, if_neg (fun z => h z.symm)]
      rw [hd1]
      generalize sm (fun e => if fs e = (a : Int) then ld L fs e n else 0) k = S1
      generalize sm (fun e => lowV (fun b => if fs e = (a : Int) then ld L fs e b else 0) (fs n)) k = S2
      generalize (if fs n = (a : Int) then (1 : Int) else 0) = d1
      generalize (if a = n + 1 then (1 : Int) else 0) = d2
      generalize ld L fs a n = x
      generalize lowV (ld L fs a) (fs n) = y
      generalize dl a n = z
      grind
end Ld

set_option Elab.async false
set_option linter.all false
set_option maxRecDepth 100000
set_option maxHeartbeats 4000000
namespace Ld
/-- one entry of the demanded slack -/
def ent (k : Nat) (s : Nat → Int) (more lost : Int) (v : Nat → Int) (e : Int) : Int := sm (fun b => s b * v b) k + more * (v k - e) + lost * v (k - 1)
theorem ent_e (k : Nat) (s : Nat → Int) (more lost : Int) (v : Nat → Int) (e : Int) : ent k s more lost v e = ent k s more lost v 0 - more * e := by
  unfold ent
  generalize sm (fun b => s b * v b) k = x
  grind
theorem ent_congr {k : Nat} {s : Nat → Int} {more lost e : Int} {v w : Nat → Int} (h : ∀ b, b ≤ k → v b = w b) : ent k s more lost v e = ent k s more lost w e := by
  unfold ent
  rw [sm_congr (g := fun b => s b * w b) (fun i hi => by rw [h i (by omega)]), h k (by omega), h (k - 1) (by omega)]
theorem ent_lin (k : Nat) (s : Nat → Int) (more lost c d : Int) (x y z : Nat → Int) : ent k s more lost (fun b => x b + c * y b - d * z b) 0 = ent k s more lost x 0 + c * ent k s more lost y 0 - d * ent k s more lost z 0 := by
  unfold ent
  have h : sm (fun b => s b * (x b + c * y b - d * z b)) k = sm (fun b => s b * x b) k + c * sm (fun b => s b * y b) k - d * sm (fun b => s b * z b) k := by
    rw [← sm_mul, ← sm_mul, ← sm_add, ← sm_sub]
    exact sm_congr fun i _ => by grind
  rw [h]
  generalize sm (fun b => s b * x b) k = a1
  generalize sm (fun b => s b * y b) k = a2
  generalize sm (fun b => s b * z b) k = a3
  grind
theorem ent_sm (k : Nat) (s : Nat → Int) (more lost : Int) (P : Nat → Prop) [DecidablePred P] (v : Nat → Nat → Int) (m : Nat) : ent k s more lost (fun b => sm (fun e => if P e then v e b else 0) m) 0 = sm (fun e => if P e then ent k s more lost (v e) 0 else 0) m := by
  have h : ∀ e, (if P e then ent k s more lost (v e) 0 else 0) = (sm (fun b => s b * (if P e then v e b else 0)) k + more * (if P e then v e k else 0)) + lost * (if P e then v e (k - 1) else 0) := fun e => by
    by_cases he : P e
    · simp only [if_pos he]; unfold ent; grind
    · simp only [if_neg he, Int.mul_zero]; rw [sm_zero]; rfl
  rw [sm_congr fun e _ => h e, sm_add, sm_add, sm_mul, sm_mul, sm_swap]
  unfold ent
  rw [Int.sub_zero]
  congr 1
  congr 1
  exact sm_congr fun b _ => by rw [sm_mul]
theorem ent_dl {k a : Nat} (s : Nat → Int) (more lost : Int) (h : a < k) : ent k s more lost (dl a) 0 = s a + (if a = k - 1 then lost else 0) := by
  unfold ent
  rw [sm_congr (g := fun b => if b = a then s b else 0) (fun i _ => by unfold dl; split <;> simp), sm_one, if_pos h]
  unfold dl
  rw [if_neg (by omega)]
  by_cases e : a = k - 1
  · rw [if_pos e, if_pos e.symm]; simp
  · rw [if_neg e, if_neg (fun z => e z.symm)]; simp
/-- the demanded slack's entries, from heads on -/
def en (L : Int) (fs : Nat → Int) (k : Nat) (s : Nat → Int) (more lost ret : Int) (a : Nat) : Int := ent k s more lost (pr L fs a) (if a = 0 then ret else 0)
theorem pr_succ (L : Int) (fs : Nat → Int) (a : Nat) : pr L fs (a + 1) = ld L fs a := by
  funext b
  unfold pr
  rw [if_neg (by omega)]
  rfl
theorem pr_z (L : Int) (fs : Nat → Int) : pr L fs 0 = hd L fs := by
  funext b
  unfold pr
  rw [if_pos rfl]
theorem en_zero (L : Int) (fs : Nat → Int) (k : Nat) (s : Nat → Int) (more lost ret : Int) : en L fs k s more lost ret 0 = ent k s more lost (hd L fs) ret := by
  unfold en
  rw [pr_z, if_pos rfl]
theorem en_succ (L : Int) (fs : Nat → Int) (k : Nat) (s : Nat → Int) (more lost ret : Int) (a : Nat) : en L fs k s more lost ret (a + 1) = ent k s more lost (ld L fs a) 0 := by
  unfold en
  rw [pr_succ, if_neg (by omega)]
/-- the rows from the top -/
theorem en_row {L : Int} {fs : Nat → Int} (ok : OkF fs) {k a : Nat} (s : Nat → Int) (more lost ret : Int) (ha : a < k) :
    en L fs k s more lost ret a = s a + L * en L fs k s more lost ret (a + 1) - (L - 1) * sm (fun e => if fs e = a then en L fs k s more lost ret (e + 1) else 0) k + (if a = k - 1 then lost else 0) - (if a = 0 then more * ret else 0) := by
  have h1 : en L fs k s more lost ret a = ent k s more lost (pr L fs a) 0 - (if a = 0 then more * ret else 0) := by
    unfold en
    rw [ent_e]
    by_cases h : a = 0
    · simp only [if_pos h]
    · simp only [if_neg h, Int.mul_zero]
  rw [h1, ent_congr (fun b hb => pr_eq ok ha b hb), ent_lin, ent_dl _ _ _ ha, ent_sm k s more lost (fun e => fs e = (a : Int)) (ld L fs) k, en_succ]
  rw [sm_congr (f := fun e => if fs e = (a : Int) then en L fs k s more lost ret (e + 1) else 0) (g := fun e => if fs e = (a : Int) then ent k s more lost (ld L fs e) 0 else 0) (fun e _ => by simp only [en_succ])]
  generalize sm (fun e => if fs e = (a : Int) then ent k s more lost (ld L fs e) 0 else 0) k = x
  generalize (if a = k - 1 then lost else 0) = y
  generalize (if a = 0 then more * ret else 0) = z
  generalize L * ent k s more lost (ld L fs a) 0 = w
  generalize (L - 1) * x = v
  omega
theorem en_top {L : Int} {fs : Nat → Int} (ok : OkF fs) {k : Nat} (s : Nat → Int) (more lost ret : Int) (hk : 0 < k) : en L fs k s more lost ret k = more := by
  obtain ⟨j, rfl⟩ : ∃ j, k = j + 1 := ⟨k - 1, by omega⟩
  rw [en_succ]
  unfold ent
  rw [sm_congr (g := fun _ => 0) (fun i hi => by rw [ld_zero ok i (by omega)]; simp), sm_zero, ld_one ok, Nat.add_sub_cancel, ld_zero ok j (Nat.le_refl _)]
  simp
/-- sizes -/
theorem pow12 {a b : Nat} (h : a ≤ b) : 12 ^ a ≤ 12 ^ b := Nat.pow_le_pow_right (by decide) h
theorem gv_bd {L : Int} {fs : Nat → Int} {x : Int} {ch : Nat → Int} (ok : OkF fs) (h1 : 0 ≤ L) (h2 : L ≤ 6) (hx : x.natAbs ≤ 1) (hc : ∀ i, (ch i).natAbs ≤ 1) : ∀ n, (gv L fs x ch n).natAbs ≤ 12 ^ n := by
  intro n
  induction n using Nat.strongRecOn with
  | _ n ih =>
    cases n with
    | zero => exact hx
    | succ m =>
      rw [gv_succ (ok m).2.1]
      have i1 := ih m (by omega)
      have i2 : (lowV (gv L fs x ch) (fs m)).natAbs ≤ 12 ^ m := by
        unfold lowV
        have := ok m
        split
        · exact Nat.zero_le _
        · exact Nat.le_trans (ih _ (by omega)) (pow12 (by omega))
      have i3 := hc m
      have p1 : 1 ≤ 12 ^ m := Nat.one_le_pow _ _ (by decide)
      rw [Nat.pow_succ]
      generalize 12 ^ m = B at *
      generalize gv L fs x ch m = g at *
      generalize lowV (gv L fs x ch) (fs m) = l at *
      generalize ch m = c at *
      have q1 : (L * g).natAbs ≤ 6 * B := by rw [Int.natAbs_mul]; exact Nat.mul_le_mul (by omega) i1
      have q2 : ((L - 1) * l).natAbs ≤ 5 * B := by rw [Int.natAbs_mul]; exact Nat.mul_le_mul (by omega) i2
      generalize L * g = u at *
      generalize (L - 1) * l = v at *
      omega
theorem ld_bd {L : Int} {fs : Nat → Int} (ok : OkF fs) (h1 : 0 ≤ L) (h2 : L ≤ 6) (a b : Nat) (hb : b ≤ 41) : (ld L fs a b).natAbs < 2 ^ 150 :=
  Nat.lt_of_le_of_lt (gv_bd ok h1 h2 (by decide) (fun i => by unfold dl; split <;> decide) b) (Nat.lt_of_le_of_lt (pow12 hb) (by decide))
theorem hd_bd {L : Int} {fs : Nat → Int} (ok : OkF fs) (h1 : 0 ≤ L) (h2 : L ≤ 6) (b : Nat) (hb : b ≤ 41) : (hd L fs b).natAbs < 2 ^ 150 :=
  Nat.lt_of_le_of_lt (gv_bd ok h1 h2 (by decide) (fun i => by decide) b) (Nat.lt_of_le_of_lt (pow12 hb) (by decide))
theorem pr_bd {L : Int} {fs : Nat → Int} (ok : OkF fs) (h1 : 0 ≤ L) (h2 : L ≤ 6) (a b : Nat) (hb : b ≤ 41) : (pr L fs a b).natAbs < 2 ^ 150 := by
  unfold pr
  split
  · exact hd_bd ok h1 h2 b hb
  · exact ld_bd ok h1 h2 _ b hb
theorem sm_bd {f : Nat → Int} {B : Nat} : ∀ {n : Nat}, (∀ i, i < n → (f i).natAbs ≤ B) → (sm f n).natAbs ≤ n * B
  | 0, _ => by simp [sm]
  | n + 1, h => by
    have h1 := sm_bd (n := n) fun i hi => h i (by omega)
    have h2 := h n (by omega)
    rw [sm, Nat.add_mul, Nat.one_mul]
    omega
theorem en_bd {L : Int} {fs : Nat → Int} (ok : OkF fs) (h1 : 0 ≤ L) (h2 : L ≤ 6) {k : Nat} {s : Nat → Int} {more lost ret : Int} (hk : k ≤ 40) (hs : ∀ i, i < k → (s i).natAbs ≤ 2 ^ 10) (hm : more.natAbs ≤ 2 ^ 40) (hl : lost.natAbs ≤ 2 ^ 40) (hr : ret.natAbs ≤ 1) (a : Nat) :
    (en L fs k s more lost ret a).natAbs < 2 ^ 200 := by
  unfold en ent
  have b := fun i hi => pr_bd (a := a) ok h1 h2 i hi
  generalize pr L fs a = v at *
  have q1 : (sm (fun b => s b * v b) k).natAbs ≤ k * (2 ^ 10 * 2 ^ 150) := sm_bd fun i hi => by
    rw [Int.natAbs_mul]
    exact Nat.mul_le_mul (hs i hi) (Nat.le_of_lt (b i (by omega)))
  have q2 : (more * (v k - if a = 0 then ret else 0)).natAbs ≤ 2 ^ 40 * 2 ^ 151 := by
    rw [Int.natAbs_mul]
    refine Nat.mul_le_mul hm ?_
    have := b k (by omega)
    split <;> omega
  have q3 : (lost * v (k - 1)).natAbs ≤ 2 ^ 40 * 2 ^ 150 := by
    rw [Int.natAbs_mul]
    exact Nat.mul_le_mul hl (Nat.le_of_lt (b _ (by omega)))
  generalize sm (fun b => s b * v b) k = x at *
  generalize (more * (v k - if a = 0 then ret else 0)) = y at *
  generalize lost * v (k - 1) = z at *
  have q4 : k * (2 ^ 10 * 2 ^ 150) ≤ 40 * (2 ^ 10 * 2 ^ 150) := Nat.mul_le_mul_right _ hk
  omega
/-- the greatest entry below 0, less one -/
def brk (es : Nat → Int) : Nat → Option Int
  | 0 => none
  | n + 1 => if es n < 0 then some ((n : Int) - 1) else brk es n
theorem brk_some {es : Nat → Int} : ∀ {n : Nat} {b : Int}, brk es n = some b → -1 ≤ b ∧ b < (n : Int) - 1 ∧ (0 : Int) ≤ b + 1
  | 0, b, h => by cases h
  | n + 1, b, h => by
    unfold brk at h
    split at h
    · cases h; omega
    · have := brk_some h; omega
theorem brk_congr {es fs : Nat → Int} : ∀ {n : Nat}, (∀ i, i < n → es i = fs i) → brk es n = brk fs n
  | 0, _ => rfl
  | n + 1, h => by unfold brk; rw [h n (by omega), brk_congr fun i hi => h i (by omega)]
end Ld

set_option Elab.async false
set_option linter.all false
set_option maxRecDepth 100000
set_option maxHeartbeats 4000000
namespace Ld
open PySem PySem.Spec PyProof.Rows L2 Rl Eg SX
def fn (fs : List Int) : Nat → Int := fun i => fs.getD i 0
theorem fn_at {fs : List Int} {i : Nat} {f : Int} (h : fs[i]? = some f) : fn fs i = f := by unfold fn; rw [List.getD_eq_getElem?_getD, h]; rfl
def rng (n : Nat) (f : Nat → Int) : List V := (List.range n).map fun i => V.int (f i)
theorem rng_len {n : Nat} {f : Nat → Int} : (rng n f).length = n := by simp [rng]
theorem rng_at {n i : Nat} {f : Nat → Int} (h : i < n) : (rng n f)[i]? = some (.int (f i)) := by unfold rng; rw [List.getElem?_map, List.getElem?_range h]; rfl
theorem rng_succ (n : Nat) (f : Nat → Int) : rng (n + 1) f = rng n f ++ [.int (f n)] := by unfold rng; rw [List.range_succ, List.map_append]; rfl
theorem rng_fn (fs : List Int) : fs.map V.int = rng fs.length (fn fs) := by
  apply List.ext_getElem?
  intro i
  by_cases h : i < fs.length
  · rw [rng_at h, List.getElem?_map, List.getElem?_eq_getElem h, ← fn_at (List.getElem?_eq_getElem h)]; rfl
  · rw [List.getElem?_eq_none (by rw [List.length_map]; omega), List.getElem?_eq_none (by rw [rng_len]; omega)]
theorem rng_congr {n : Nat} {f g : Nat → Int} (h : ∀ i, i < n → f i = g i) : rng n f = rng n g := List.map_congr_left fun i hi => by rw [h i (List.mem_range.mp hi)]
/-- an own list of whole numbers -/
def IL (H : Hp) (p : Addr) (n : Nat) (f : Nat → Int) : Prop := H p = some (.lst (rng n f))
theorem IL.same {H H' : Hp} {p : Addr} {n : Nat} {f : Nat → Int} (h : IL H p n f) (e : Same H H') : IL H' p n f := e _ _ h
theorem IL.sq {K : PySem.W.Frag} {H : Hp} {p : Addr} {n : Nat} {f : Nat → Int} (h : IL H p n f) : SqL K H p (rng n f) := .of h
theorem IL.of {H : Hp} {p : Addr} {xs : List V} {n : Nat} {f : Nat → Int} (h : H p = some (.lst xs)) (e : xs = rng n f) : IL H p n f := by unfold IL; rw [h, e]
theorem cutV_from (xs : List V) (m : Nat) (h : m ≤ xs.length) : cutV xs (some (m : Int)) none = xs.drop m := by
  unfold cutV
  rw [HT.sIx_nat, HT.sIx_none, Nat.min_eq_left h, List.take_of_length_le (by rw [List.length_drop]; omega)]
theorem rng_drop (n m : Nat) (f : Nat → Int) : (rng n f).drop m = rng (n - m) (fun j => f (m + j)) := by
  apply List.ext_getElem?
  intro i
  rw [List.getElem?_drop]
  by_cases h : i < n - m
  · rw [rng_at h, rng_at (by omega)]
  · rw [List.getElem?_eq_none (by rw [rng_len]; omega), List.getElem?_eq_none (by rw [rng_len]; omega)]
theorem rng_cut {n m : Nat} {f : Nat → Int} (h : m ≤ n) : cutV (rng n f) (some (m : Int)) none = rng (n - m) (fun j => f (m + j)) := by
  rw [cutV_from _ _ (by rw [rng_len]; exact h), rng_drop]
theorem il_ne {H : Hp} {q D : Addr} {m : Nat} {f : Nat → Int} {qs : List Addr} (h : IL H q (m + 1) f) (e : H D = some (.lst (qs.map V.ref))) : q ≠ D := by
  intro z
  subst z
  unfold IL at h
  rw [h] at e
  injection e with e
  injection e with e
  have h0 := congrArg (fun l : List V => l[0]?) e
  rw [rng_at (by omega), List.getElem?_map] at h0
  cases hq : qs[0]? with
  | none => rw [hq] at h0; cases h0
  | some z => rw [hq] at h0; cases h0
theorem g_truL {K : PySem.W.Frag} {H : Hp} {p : Addr} {xs : List V} {Q : Bool → Hp → Prop} (h : SqL K H p xs) (k : Q (!xs.isEmpty) H) : gTru K (.ref p) H Q := ⟨_, .inl ⟨xs, h, rfl⟩, k⟩
end Ld

set_option Elab.async false
set_option linter.all false
set_option maxRecDepth 100000
set_option maxHeartbeats 4000000
/-! ladders: what grows, newcomers, crowns, prices -/
namespace Ld
theorem gv_mono {L : Int} {fs : Nat → Int} {x : Int} {ch : Nat → Int} (ok : OkF fs) (h1 : 1 ≤ L) (hx : 0 ≤ x) (hc : ∀ i, 0 ≤ ch i) : ∀ n, 0 ≤ gv L fs x ch n ∧ ∀ m, m ≤ n → gv L fs x ch m ≤ gv L fs x ch n := by
  intro n
  induction n with
  | zero => exact ⟨hx, fun m hm => by rw [show m = 0 by omega]; exact Int.le_refl _⟩
  | succ n ih =>
    obtain ⟨i1, i2⟩ := ih
    have hl : lowV (gv L fs x ch) (fs n) ≤ gv L fs x ch n := by
      unfold lowV
      have := ok n
      split
      · exact i1
      · exact i2 _ (by omega)
    have hs : gv L fs x ch n ≤ gv L fs x ch (n + 1) := by
      rw [gv_succ (ok n).2.1]
      have := hc n
      generalize lowV (gv L fs x ch) (fs n) = l at *
      generalize gv L fs x ch n = g at *
      have q : 0 ≤ (L - 1) * (g - l) := Int.mul_nonneg (by omega) (by omega)
      have e : L * g - (L - 1) * l = g + (L - 1) * (g - l) := by grind
      omega
    refine ⟨by omega, fun m hm => ?_⟩
    by_cases e : m = n + 1
    · rw [e]; exact Int.le_refl _
    · have := i2 m (by omega)
      omega
theorem ld_nn {L : Int} {fs : Nat → Int} (ok : OkF fs) (h1 : 1 ≤ L) (a b : Nat) : 0 ≤ ld L fs a b := (gv_mono ok h1 (by decide) (fun i => by unfold dl; split <;> decide) b).1
theorem ld_up {L : Int} {fs : Nat → Int} (ok : OkF fs) (h1 : 1 ≤ L) {a k : Nat} (h : a < k) : 1 ≤ ld L fs a k := by
  have h2 : gv L fs 0 (dl a) (a + 1) ≤ gv L fs 0 (dl a) k := (gv_mono ok h1 (by decide) (fun i => by unfold dl; split <;> decide) k).2 (a + 1) h
  have h3 : gv L fs 0 (dl a) (a + 1) = 1 := ld_one ok a
  show 1 ≤ gv L fs 0 (dl a) k
  omega
theorem hd_up {L : Int} {fs : Nat → Int} (ok : OkF fs) (h1 : 1 ≤ L) {m n : Nat} (h : m ≤ n) : hd L fs m ≤ hd L fs n := (gv_mono (x := 1) ok h1 (by decide) (fun i => by decide) n).2 m h
theorem hd_pos {L : Int} {fs : Nat → Int} (ok : OkF fs) (h1 : 1 ≤ L) (n : Nat) : 1 ≤ hd L fs n := by
  have := hd_up ok h1 (Nat.zero_le n)
  exact this
theorem hd_all {L : Int} {fs : Nat → Int} (ok : OkF fs) {k : Nat} (h : ∀ i, i < k → 0 ≤ fs i) : ∀ b, b ≤ k → hd L fs b = 1 := by
  intro b
  induction b using Nat.strongRecOn with
  | _ b ih =>
    intro hb
    cases b with
    | zero => rfl
    | succ n =>
      have h1 := ih n (by omega) (by omega)
      have h2 : lowV (hd L fs) (fs n) = 1 := by
        unfold lowV
        have := ok n
        have := h n (by omega)
        rw [if_neg (by omega)]
        exact ih _ (by omega) (by omega)
      rw [hd_succ ok, h1, h2]
      omega
theorem hd_out {L : Int} {fs : Nat → Int} (ok : OkF fs) (h2 : 2 ≤ L) {i k : Nat} (hi : i < k) (ho : fs i = -1) : 2 ≤ hd L fs k := by
  have h1 := hd_up (L := L) ok (by omega) (show i + 1 ≤ k by omega)
  have h3 := hd_pos (L := L) ok (by omega) i
  have h4 : lowV (hd L fs) (fs i) = 0 := by unfold lowV; rw [if_pos (by omega)]
  rw [hd_succ ok, h4, Int.mul_zero, Int.sub_zero] at h1
  have h5 : 2 * 1 ≤ L * hd L fs i := Int.mul_le_mul h2 h3 (by decide) (by omega)
  omega
theorem sm_nn {f : Nat → Int} : ∀ {n : Nat}, (∀ i, i < n → 0 ≤ f i) → 0 ≤ sm f n
  | 0, _ => by simp [sm]
  | n + 1, h => by
    have h1 := sm_nn (n := n) fun i hi => h i (by omega)
    have h2 := h n (by omega)
    rw [sm]
    omega
theorem wd_eq {L : Int} {fs : Nat → Int} (ok : OkF fs) {k : Nat} : ∀ b, b ≤ k → gv L fs 0 (fun _ => 1) b = sm (fun a => ld L fs a b) k := by
  intro b
  induction b using Nat.strongRecOn with
  | _ b ih =>
    intro hb
    cases b with
    | zero => rw [sm_congr (g := fun _ => 0) (fun i _ => ld_zero ok 0 (by omega)), sm_zero]; rfl
    | succ n =>
      have i1 := ih n (by omega) (by omega)
      have i2 : lowV (gv L fs 0 (fun _ => 1)) (fs n) = sm (fun a => lowV (ld L fs a) (fs n)) k := by
        rw [← lowV_sm]
        exact lowV_congr fun i hi => ih i (by have := (ok n).2.1; omega) (by have := (ok n).2.1; omega)
      have i3 : sm (fun a => dl a n) k = 1 := by
        rw [sm_congr (g := fun a => if a = n then 1 else 0) (fun i _ => by unfold dl; by_cases h : n = i; { rw [if_pos h, if_pos h.symm] }; { rw [if_neg h, if_neg (fun z => h z.symm)] }), sm_one n (fun _ => 1), if_pos (by omega)]
      rw [gv_succ (ok n).2.1, i1, i2, sm_congr (g := fun a => (L * ld L fs a n - (L - 1) * lowV (ld L fs a) (fs n)) + dl a n) (fun a _ => ld_succ ok a n), sm_add, sm_sub, sm_mul, sm_mul, i3]
theorem pr_0 (L : Int) (fs : Nat → Int) (ok : OkF fs) (a : Nat) : pr L fs a 0 = if a = 0 then 1 else 0 := by
  unfold pr
  split
  · rfl
  · exact ld_zero ok 0 (by omega)
theorem pr_nn {L : Int} {fs : Nat → Int} (ok : OkF fs) (h1 : 1 ≤ L) (a b : Nat) : 0 ≤ pr L fs a b := by
  unfold pr
  split
  · have := hd_pos ok h1 b; omega
  · exact ld_nn ok h1 _ _
/-- more players on rung 0 -/
theorem en_add {L : Int} {fs : Nat → Int} (ok : OkF fs) {k : Nat} (hk : 0 < k) {s s' : Nat → Int} {t : Int} (hs : ∀ b, b < k → s' b = s b - (if b = 0 then t else 0)) (more lost ret : Int) (a : Nat) :
    en L fs k s' more lost ret a = en L fs k s more lost ret a - (if a = 0 then t else 0) := by
  unfold en ent
  have h : sm (fun b => s' b * pr L fs a b) k = sm (fun b => s b * pr L fs a b) k - (if a = 0 then t else 0) := by
    rw [sm_congr (g := fun b => s b * pr L fs a b - (if b = 0 then t * pr L fs a b else 0)) (fun b hb => by rw [hs b hb]; split <;> grind), sm_sub, sm_one 0 (fun b => t * pr L fs a b), if_pos hk, pr_0 L fs ok]
    split <;> simp
  rw [h]
  omega
theorem en_nn {L : Int} {fs : Nat → Int} (ok : OkF fs) (h1 : 1 ≤ L) {k : Nat} {s : Nat → Int} {more lost ret : Int} (hs : ∀ b, b < k → 0 ≤ s b) (hm : 0 ≤ more) (hl : 0 ≤ lost) (hr : ret ≤ 1) (a : Nat) : 0 ≤ en L fs k s more lost ret a := by
  unfold en ent
  have q1 : 0 ≤ sm (fun b => s b * pr L fs a b) k := sm_nn fun i hi => Int.mul_nonneg (hs i hi) (pr_nn ok h1 _ _)
  have q2 : 0 ≤ more * (pr L fs a k - if a = 0 then ret else 0) := by
    refine Int.mul_nonneg hm ?_
    have := pr_nn ok h1 a k
    split
    · rename_i h
      subst h
      rw [pr_z]
      have := hd_pos ok h1 k
      omega
    · omega
  have q3 : 0 ≤ lost * pr L fs a (k - 1) := Int.mul_nonneg hl (pr_nn ok h1 _ _)
  omega
/-- what one crown more costs -/
def cst (L : Int) (fs : Nat → Int) (k : Nat) (ret : Int) (a : Nat) : Int := pr L fs a k - if a = 0 then ret else 0
theorem en_crown (L : Int) (fs : Nat → Int) (k : Nat) (s : Nat → Int) (more m lost ret : Int) (a : Nat) : en L fs k s (more + m) lost ret a = en L fs k s more lost ret a + m * cst L fs k ret a := by
  unfold en ent cst
  rw [Int.add_mul]
  omega
theorem en_lost (L : Int) (fs : Nat → Int) (k : Nat) (s : Nat → Int) (more lost m ret : Int) (a : Nat) : en L fs k s more (lost + m) ret a = en L fs k s more lost ret a + m * pr L fs a (k - 1) := by
  unfold en ent
  rw [Int.add_mul]
  omega
theorem cst_nn {L : Int} {fs : Nat → Int} (ok : OkF fs) (h1 : 1 ≤ L) {k : Nat} {ret : Int} (hr : ret ≤ 1) (a : Nat) : 0 ≤ cst L fs k ret a := by
  unfold cst
  have := pr_nn ok h1 a k
  split
  · rename_i h
    subst h
    rw [pr_z]
    have := hd_pos ok h1 k
    omega
  · omega
theorem cst_up {L : Int} {fs : Nat → Int} (ok : OkF fs) (h1 : 1 ≤ L) {k : Nat} {ret : Int} {a : Nat} (ha : 0 < a) (hk : a ≤ k) : 1 ≤ cst L fs k ret a := by
  unfold cst
  rw [if_neg (by omega)]
  unfold pr
  rw [if_neg (by omega)]
  have := ld_up (L := L) ok h1 (show a - 1 < k by omega)
  omega
/-- which entry is below 0 -/
theorem brk_none {es : Nat → Int} : ∀ {n : Nat}, brk es n = none ↔ ∀ i, i < n → 0 ≤ es i
  | 0 => ⟨fun _ _ h => by omega, fun _ => rfl⟩
  | n + 1 => by
    unfold brk
    have ih := brk_none (es := es) (n := n)
    by_cases h : es n < 0
    · rw [if_pos h]
      constructor
      · intro z
        cases z
      · intro z
        have := z n (by omega)
        omega
    · rw [if_neg h, ih]
      constructor
      · intro z i hi
        by_cases e : i = n
        · rw [e]; omega
        · exact z i (by omega)
      · intro z i hi
        exact z i (by omega)
theorem brk_neg {es : Nat → Int} {n i : Nat} (hi : i < n) (h : es i < 0) : ∃ b, brk es n = some b := by
  cases hb : brk es n with
  | none => have := brk_none.mp hb i hi; omega
  | some b => exact ⟨b, rfl⟩
theorem brk_one {es : Nat → Int} : ∀ {n : Nat}, 0 < n → es 0 < 0 → (∀ i, 0 < i → i < n → 0 ≤ es i) → brk es n = some (-1)
  | 0, h, _, _ => by omega
  | n + 1, _, h0, h => by
    unfold brk
    by_cases e : n = 0
    · subst e
      rw [if_pos h0]
      rfl
    · have := h n (by omega) (by omega)
      rw [if_neg (by omega)]
      exact brk_one (by omega) h0 fun i h1 h2 => h i h1 (by omega)
/-- the meetings left where all rungs above are full -/
theorem left_sum {L : Int} {fs : Nat → Int} (ok : OkF fs) {k : Nat} (s : Nat → Int) (more lost ret : Int) : sm (fun j => en L fs k s more lost ret (1 + j) + 1) k = (k : Int) + sm (fun b => s b * gv L fs 0 (fun _ => 1) b) k + more * gv L fs 0 (fun _ => 1) k + lost * gv L fs 0 (fun _ => 1) (k - 1) := by
  have h1 : ∀ n : Nat, sm (fun _ => (1 : Int)) n = n := fun n => by
    induction n with
    | zero => rfl
    | succ n ih => rw [sm, ih]; rfl
  rw [sm_add, h1, sm_congr (g := fun j => (sm (fun b => s b * ld L fs j b) k + more * ld L fs j k) + lost * ld L fs j (k - 1)) (fun j _ => by rw [Nat.add_comm, en_succ]; unfold ent; rw [Int.sub_zero]), sm_add, sm_add, sm_mul, sm_mul, sm_swap, ← wd_eq ok k (Nat.le_refl k), ← wd_eq ok (k - 1) (by omega)]
  rw [sm_congr (f := fun b => s b * gv L fs 0 (fun _ => 1) b) (g := fun b => sm (fun j => s b * ld L fs j b) k) (fun b hb => by rw [sm_mul, ← wd_eq ok b (by omega)])]
  omega
/-- rounding up -/
theorem ceil_spec {e c : Int} (he : e < 0) (hc : 0 < c) : 0 ≤ e + ((-1 - e) / c + 1) * c ∧ e + ((-1 - e) / c) * c < 0 ∧ 0 ≤ (-1 - e) / c := by
  have h1 := Int.emod_add_mul_ediv (-1 - e) c
  have h2 := Int.emod_nonneg (-1 - e) (show c ≠ 0 by omega)
  have h3 := Int.emod_lt_of_pos (-1 - e) hc
  have h4 : 0 ≤ (-1 - e) / c := Int.ediv_nonneg (by omega) (by omega)
  generalize (-1 - e) / c = q at *
  generalize (-1 - e) % c = r at *
  have h5 : (q + 1) * c = c * q + c := by grind
  have h6 : q * c = c * q := Int.mul_comm _ _
  rw [h5, h6]
  exact ⟨by omega, by omega, h4⟩
end Ld

section
open PySem PySem.Spec PyProof.Rows L2 Rl Eg SX
/-! my own short words for a walk -/
-- two addresses differ
local macro_rules | `(tactic| o_reads) => `(tactic| (first
  | assumption | (refine Ne.symm ?_; assumption) | exact ne_of_none (by o_shape) (by assumption) | exact Ne.symm (ne_of_none (by o_shape) (by assumption)) | exact ne_of (by o_shape) (by o_shape) (by intro z; cases z)))
-- what stands at an address
local macro_rules | `(tactic| o_shape) => `(tactic| (first
  | with_reducible assumption
  | with_reducible exact upd_same
  | ((with_reducible refine Eq.trans (upd_ne ?h1) ?h2); (case h1 => o_reads); (case h2 => o_shape))
  | ((with_reducible refine same_at (by assumption) ?_); o_shape)
  | ((with_reducible refine off_at (by assumption) ?h1 ?h2); (case h1 => o_reads); (case h2 => o_shape))
  | ((with_reducible refine offs_at (by assumption) ?h1 ?h2); (case h1 => w_left); (case h2 => o_shape))))
-- not in a list of places
local macro_rules | `(tactic| w_left) => `(tactic| (repeat (first | with_reducible exact nn_nil | ((with_reducible refine nn_cons ?h1 ?_); (case h1 => o_reads)))))
-- a field among fields
local macro_rules | `(tactic| w_fin) => `(tactic| (first | with_reducible exact fld_hd | with_reducible exact pf_nil | with_reducible exact pf_hd | ((with_reducible refine' fld_tl ?h1 ?h2); (case h1 => decide +kernel); (case h2 => w_fin)) | ((with_reducible refine' pf_tl ?h1 ?h2); (case h1 => decide +kernel); (case h2 => w_fin))))
-- a list, a tuple that stands
local macro_rules | `(tactic| o_fieldsN) => `(tactic| (first | with_reducible assumption | exact SqL.of (by o_shape) | exact SqT.of (by o_shape) | ((with_reducible refine Same.seq (‹Same _ _› : Same _ _) ?_); o_fieldsN) | ((with_reducible refine Same.tup (‹Same _ _› : Same _ _) ?_); o_fieldsN)))
-- sizes and arithmetic
local macro_rules | `(tactic| pre_facts) => `(tactic| (first | omega | ((with_reducible show (0 : Int) < _); decide) | decide | ((with_reducible show (0 : Int) < _); decide +kernel) | (rw [sizeLine_eq]; omega) | ((simp only [S_cat, S_len, List.length_append, List.length_cons, List.length_nil, List.length_map, sizeLine_eq]); omega)))
local macro_rules | `(tactic| pre_facts) => `(tactic| (first | (rw [Ld.rng_len]; omega) | ((simp only [Ld.rng_len, S_cat, S_len, List.length_append, List.length_cons, List.length_nil, List.length_map, sizeLine_eq]); omega)))
-- one step
local macro_rules | `(tactic| pv_eval) => `(tactic| (first
  | ((with_reducible refine' i_var ?h0 ?_); (case h0 => rfl))
  | with_reducible refine i_c ?_
  | with_reducible refine i_cons ?_
  | with_reducible refine i_nil ?_
  | with_reducible refine i_op ?_
  | with_reducible refine i_cb ?_
  | with_reducible refine j_asg ?_
  | ((with_reducible refine' i_name ?h0 ?_); (case h0 => rfl))
  | with_reducible refine i_seqN (fun _ _ => ?_)
  | with_reducible refine i_test ?_
  | with_reducible refine g_b ?_
  | with_reducible refine i_un ?_
  | with_reducible refine i_call ?_
  | with_reducible refine i_meth ?_
  | with_reducible refine i_callS ?_
  | with_reducible refine i_methS ?_
  | with_reducible refine i_fld ?_
  | with_reducible refine i_mk ?_
  | with_reducible refine i_if ?_
  | with_reducible refine i_sl ?_
  | with_reducible refine i_nopart ?_
  | with_reducible refine i_part ?_
  | with_reducible refine g_part ?_
  | with_reducible refine i_tB ?_
  | with_reducible refine i_tru ?_
  | with_reducible refine g_truB ?_
  | with_reducible refine i_and ?_
  | with_reducible refine i_or ?_
  | with_reducible refine i_not ?_
  | with_reducible refine i_andV ?_
  | with_reducible refine i_orV ?_
  | with_reducible refine i_notV ?_
  | with_reducible refine g_andV ?_
  | with_reducible refine g_orV ?_
  | with_reducible refine g_notV ?_
  | with_reducible refine j_next ?_
  | with_reducible refine j_drop ?_
  | with_reducible refine j_ret ?_
  | with_reducible refine j_retN ?_
  | with_reducible refine i_ifS ?_
  | ((with_reducible refine' j_aug ?h0 ?_); (case h0 => rfl))
  | with_reducible refine g_ipI ?_
  | with_reducible refine j_augS ?_
  | with_reducible refine i_sub ?_
  | with_reducible refine i_for ?_
  | with_reducible refine i_lc ?_
  | with_reducible refine i_iL ?_
  | with_reducible refine i_iT ?_
  | with_reducible refine i_rng0 ?_
  | ((with_reducible refine' g_rng0 ?h0 ?h1 ?_); (case h0 => o_shape); (case h1 => (refine ⟨?_, ?_, ?_, ?_⟩ <;> (pre_facts; done))))
  | with_reducible refine i_revR ?_
  | ((with_reducible refine' g_revR ?h0 ?_); (case h0 => (pre_facts; done)))
  | with_reducible refine g_uRng (fun _ _ _ _ _ => ?_)
  | with_reducible refine i_r1 ?_
  | with_reducible refine i_r2 ?_
  | with_reducible refine i_en ?_
  | with_reducible refine i_eS ?_
  | with_reducible refine i_keys ?_
  | ((with_reducible refine' g_keys ?h0 ?_); (case h0 => o_shape))
  | with_reducible refine i_iS ?_
  | with_reducible refine g_eS ?_
  | with_reducible refine g_iS ?_
  | with_reducible refine i_bm ?_
  | with_reducible refine i_bm0 ?_
  | with_reducible refine g_bmS ?_
  | with_reducible refine i_dget2 ?_
  | with_reducible refine i_dget ?_
  | with_reducible refine i_dput ?_
  | with_reducible refine i_sfld ?_
  | with_reducible refine i_gcons ?_
  | with_reducible refine i_gnil ?_
  | with_reducible refine i_par ?_
  | with_reducible refine i_chain ?_
  | with_reducible refine i_tupN ?_
  | with_reducible refine i_lstN ?_
  | with_reducible refine iteT ?_
  | with_reducible refine iteF ?_
  | with_reducible refine i_ve ?_
  | with_reducible refine i_ost ?_
  | with_reducible refine i_raise ?_
  | with_reducible refine j_makeS ?_
  | with_reducible refine i_xf ?_
  | with_reducible refine i_xfA ?_
  | ((with_reducible refine' i_fwdP ?h0 ?_); (case h0 => rfl))
  | with_reducible refine g_isB ?_
  | with_reducible refine g_notB ?_
  | with_reducible refine i_lstRg2 ?_
  | ((with_reducible refine' i_lamc ?h0 ?_); (case h0 => rfl))
  | ((with_reducible refine' i_fwd ?h0 ?_); (case h0 => rfl))
  | ((with_reducible refine' i_callE ?h0 ?_); (case h0 => rfl))
  | with_reducible refine iteNT ?_
  | with_reducible refine iteNF ?_
  | with_reducible refine g_I0 ?_
  | ((with_reducible refine' g_pow ?h0 ?_); (case h0 => exact ⟨by decide, by decide, by decide⟩))
  | ((with_reducible refine' g_I ?h0 ?_); (case h0 => (pre_facts; done)))
  | with_reducible refine g_neg ?_
  | with_reducible refine g_addI ?_
  | ((with_reducible refine' g_addS ?h0 ?_); (case h0 => (pre_facts; done)))
  | ((with_reducible refine' g_mul ?h0 ?_); (case h0 => first | exact .inl (.inl ⟨by decide, by decide⟩) | exact .inl (.inr ⟨by decide, by decide⟩) | exact .inr (by show _ + _ < _; decide +kernel) | (refine .inl (.inl ⟨?_, ?_⟩) <;> (pre_facts; done)) | (refine .inl (.inr ⟨?_, ?_⟩) <;> (pre_facts; done))))
  | ((with_reducible refine' g_div ?h0 ?_); (case h0 => (refine .inl ⟨?_, ?_⟩ <;> (pre_facts; done))))
  | with_reducible refine g_eqI ?_
  | with_reducible refine g_neI ?_
  | with_reducible refine g_eqS ?_
  | with_reducible refine g_neS ?_
  | with_reducible refine g_uInt ?_
  | with_reducible refine g_ord ?_
  | ((with_reducible refine' g_str ?h0 ?_); (case h0 => (pre_facts; done)))
  | with_reducible refine g_abs ?_
  | with_reducible refine g_max2 ?_
  | with_reducible refine g_min2 ?_
  | with_reducible refine g_count ?_
  | with_reducible refine g_isNN ?_
  | with_reducible refine g_noNN ?_
  | ((with_reducible refine' g_isNx ?h0 ?_); (case h0 => exact fun z => nomatch z))
  | ((with_reducible refine' g_noNx ?h0 ?_); (case h0 => exact fun z => nomatch z))
  | ((with_reducible refine' g_isi ?h0 ?h1 ?_); (case h0 => first | with_reducible exact .base (.int _) | with_reducible exact .base (.str _) | with_reducible exact .base (.bl _) | with_reducible exact .base .non | exact .base (.lst (by o_shape)) | exact .base (.tup (by o_shape))); (case h1 => first | with_reducible exact kb_bb | with_reducible exact kb_ii | with_reducible exact kb_ss | with_reducible exact kb_ll | with_reducible exact kb_tt | ((with_reducible refine kb_non _ ?_); decide) | ((with_reducible refine kb_bool _ ?_); decide) | ((with_reducible refine kb_int _ ?_); decide) | ((with_reducible refine kb_str _ ?_); decide) | ((with_reducible refine kb_list _ ?_); decide) | ((with_reducible refine kb_tuple _ ?_); decide)))
  | ((with_reducible refine' g_newT ?h0 (fun _ _ _ _ _ => ?_)); (case h0 => (pre_facts; done)))
  | ((with_reducible refine' g_newL ?h0 (fun _ _ _ _ _ => ?_)); (case h0 => (pre_facts; done)))
  | with_reducible refine i_dnew (fun _ _ _ _ _ => ?_)
  | ((with_reducible refine' g_fld ?h0 ?h1 ?h2 ?h3 ?_); (case h0 => o_shape); (case h1 => assumption); (case h2 => assumption); (case h3 => w_fin))
  | ((with_reducible refine' g_sfld ?h0 ?h1 ?h2 ?h3 ?h4 ?_); (case h0 => o_shape); (case h1 => assumption); (case h2 => assumption); (case h3 => (pre_facts; done)); (case h4 => w_fin))
  | ((with_reducible refine' g_meth ?h0 ?h1 ?_); (case h0 => o_shape); (case h1 => rfl))
  | ((with_reducible refine' g_methS ?h0 ?h1 ?_); (case h0 => o_shape); (case h1 => rfl))
  | ((with_reducible refine' g_dget2 ?h0 ?_); (case h0 => exact Rd.of (by o_shape)))
  | ((with_reducible refine' g_dg ?h0 ?_); (case h0 => exact Rd.of (by o_shape)))
  | ((with_reducible refine' g_dput ?h0 ?h1 ?_); (case h0 => o_shape); (case h1 => (pre_facts; done)))
  | ((with_reducible refine' g_ixL ?h0 ?h1 ?_); (case h0 => o_fieldsN); (case h1 => rfl))
  | ((with_reducible refine' g_ixLg ?h0 ?h1 ?_); (case h0 => o_fieldsN); (case h1 => rfl))
  | ((with_reducible refine' g_ixT ?h0 ?h1 ?_); (case h0 => o_fieldsN); (case h1 => rfl))
  | ((with_reducible refine' g_setL ?h0 ?h1 ?h2 ?_); (case h0 => o_shape); (case h1 => rfl); (case h2 => rfl))
  | ((with_reducible refine' g_lenL ?h0 ?_); (case h0 => o_fieldsN))
  | ((with_reducible refine' g_lenT ?h0 ?_); (case h0 => o_fieldsN))
  | ((with_reducible refine' g_lenS ?h0 ?_); (case h0 => (pre_facts; done)))
  | ((with_reducible refine' g_iL ?h0 ?_); (case h0 => o_fieldsN))
  | ((with_reducible refine' g_en ?h0 ?_); (case h0 => o_fieldsN))
  | ((with_reducible refine' g_r1 ?h0 ?_); (case h0 => (refine ⟨?_, ?_⟩ <;> (pre_facts; done))))
  | ((with_reducible refine' g_r2 ?h0 ?_); (case h0 => (refine ⟨?_, ?_, ?_, ?_⟩ <;> (pre_facts; done))))
  | ((with_reducible refine' g_bmL ?h0 ?_); (case h0 => o_fieldsN))
  | ((with_reducible refine' g_app ?h0 ?h1 ?_); (case h0 => o_shape); (case h1 => (pre_facts; done)))
  | ((with_reducible refine' g_sum ?h0 ?_); (case h0 => o_fieldsN))
  | ((with_reducible refine' g_list ?h0 (fun _ _ _ _ _ => ?_)); (case h0 => o_fieldsN))
  | ((with_reducible refine' g_slS ?h0 ?_); (case h0 => (pre_facts; done)))
  | ((with_reducible refine' g_slL' ?h0 (fun _ _ _ _ _ => ?_)); (case h0 => o_fieldsN))
  | ((with_reducible refine' i_gtup ?h0 ?h1 ?_); (case h0 => o_fieldsN); (case h1 => rfl))
  | ((with_reducible refine' i_unl ?h0 ?h1 ?_); (case h0 => o_fieldsN); (case h1 => rfl))
  | ((with_reducible refine' t_nx ?h0 ?_); (case h0 => assumption))))
local macro_rules | `(tactic| o_readsAll) => `(tactic| (repeat pv_eval))

namespace L25
section
variable {P : Program} {w : World} {K : PySem.W.Frag} {mg : Str → Option Value} {base : Heap} {Z : Ad}
def Stk (H : Hp) (a : Addr) : Prop := ∃ s0 s1 s2, H a = some (.lst [.int s0, .int s1, .int s2])
def sp_draw : Sp := fun vs H Q _ => ∃ a m, vs = [.ref a, .int m] ∧ 0 < m ∧ m < 2 ^ 200 ∧ Stk H a ∧ ∀ r H', 0 ≤ r → r < m → Stk H' a → Off a H H' → Q (.int r) H'
theorem d_law_draw (T : Txt K w mg Z) : Dfn P w K mg base 1 "_law_draw" ["stock", "many"] (sp_draw) := by
  obtain ⟨f, fd, F, hm, hb⟩ := T.f_law_draw
  refine ⟨f, fd, F.ok sc_law_draw (fun vs H Q E h => by first | (obtain ⟨rfl, _⟩ := h; rfl) | (obtain ⟨_, rfl, _⟩ := h; rfl) | (obtain ⟨_, _, rfl, _⟩ := h; rfl) | (obtain ⟨_, _, _, rfl, _⟩ := h; rfl) | (obtain ⟨_, _, _, _, rfl, _⟩ := h; rfl) | (obtain ⟨_, _, _, _, _, rfl, _⟩ := h; rfl) | (obtain ⟨_, _, _, _, _, _, rfl, _⟩ := h; rfl) | (obtain ⟨_, _, _, _, _, _, _, rfl, _⟩ := h; rfl) | (obtain ⟨_, _, _, _, _, _, _, _, rfl, _⟩ := h; rfl) | (obtain ⟨_, _, _, _, _, _, _, _, _, rfl, _⟩ := h; rfl) | (obtain ⟨_, _, _, _, _, _, _, _, _, _, rfl, _⟩ := h; rfl) | (obtain ⟨_, _, _, _, _, _, _, _, _, _, _, rfl, _⟩ := h; rfl) | (obtain ⟨_, _, _, _, _, _, _, _, _, _, _, _, rfl, _⟩ := h; rfl) | (obtain ⟨_, _, _, _, _, _, _, _, _, _, _, _, _, rfl, _⟩ := h; rfl) | (obtain ⟨_, _, _, _, _, _, _, _, _, _, _, _, _, _, rfl, _⟩ := h; rfl) | (obtain ⟨_, _, _, _, _, _, _, _, _, _, _, _, _, _, _, rfl, _⟩ := h; rfl) | (obtain ⟨_, _, _, _, _, _, _, _, _, _, _, _, _, _, _, _, rfl, _⟩ := h; rfl)) (fun cdv A outer s H vs Q E hr h => ?_), hm, F.kp, hb⟩
  obtain ⟨a, m, rfl, h0, h1, ⟨s0, s1, s2, hH⟩, k⟩ := h
  refine ⟨_, (pss_cons (ps_if (pt_cmpR op_gt (pe_ix ix_seq (pv 0) pe_int (fun _ _ => rfl)) pe_int (nomark _)) (pss_cons (ps_set (i := 2) sc_law_draw.nd rfl (.inl rfl) (pe_op op_mod (pe_callTy call_uInt (by rfl) T.b_int bt_int (pa_cons (pe_ix ix_seq (pv 0) pe_int (fun _ _ => rfl)) pa_nil)) (pv 1)))
      (pss_cons (ps_asg (pe_op op_uDiv (pe_ix ix_seq (pv 0) pe_int (fun _ _ => rfl)) (pv 1)) (pg_sub (pv 0) pe_int set_list))
      (pss_one (ps_ret (pv 2))))) pss_nil)
      (pss_cons (ps_augS (pv 0) pe_int get_list pe_int ip_add set_list)
      (pss_cons (ps_asg (pe_op op_mod (pe_callTy call_uInt (by rfl) T.b_int bt_int (pa_cons (pe_op op_uAdd (pe_op op_uMul (pe_ix ix_seq (pv 0) pe_int (fun _ _ => rfl)) pe_int) (pe_op op_uMul (pe_ix ix_seq (pv 0) pe_int (fun _ _ => rfl)) pe_int)) pa_nil)) pe_int) (pg_sub (pv 0) pe_int set_list))
      (pss_one (ps_ret (pe_op op_mod (pe_op op_uDiv (pe_op op_mod (pe_callTy call_uInt (by rfl) T.b_int bt_int (pa_cons (pe_op op_uAdd (pe_op op_uMul (pe_ix ix_seq (pv 0) pe_int (fun _ _ => rfl)) pe_int) (pe_op op_uMul (pe_ix ix_seq (pv 0) pe_int (fun _ _ => rfl)) pe_int)) pa_nil)) pe_int) pe_int) (pv 1))))))), ?_⟩
  try dsimp only [cxOf, Cx.nox, Cx.wish]
  show (_ : TS) _ [some _, some _, none] _
  o_readsAll
  have hmb : m.natAbs < 2 ^ 200 := by omega
  refine br (fun hs => ?_) (fun hs => ?_)
  · o_readsAll
    refine g_divW h0 hmb (by decide) ?_
    o_readsAll
    exact k _ _ (Int.emod_nonneg _ (by omega)) (Int.emod_lt_of_pos _ h0) ⟨_, _, _, upd_same⟩ (off_refl _ _).upd
  · o_readsAll
    exact k _ _ (Int.emod_nonneg _ (by omega)) (Int.emod_lt_of_pos _ h0) ⟨_, _, _, upd_same⟩ (off_refl _ _).upd.upd
def sp_stock (K : PySem.W.Frag) : Sp := fun vs H Q _ => ∃ (a : Addr) (ns : List Int) (at_ : Nat), vs = [.ref a, .int at_] ∧ SqL K H a (ns.map V.int) ∧ ns.length ≤ 63 ∧ at_ < 1000000 ∧ ∀ p H', H p = none → Same H H' → Stk H' p → Q (.ref p) H'
theorem cut5 (ns : List Int) (lo hi : Option Int) : ∃ ms : List Int, cutV (ns.map V.int) lo hi = ms.map V.int ∧ ms.length ≤ ns.length := by
  unfold cutV
  rw [← List.map_drop, ← List.map_take]
  refine ⟨_, rfl, ?_⟩
  rw [List.length_take, List.length_drop]
  omega
theorem d_law_stock (T : Txt K w mg Z) : Dfn P w K mg base 1 "_law_stock" ["script", "at"] (sp_stock K) := by
  obtain ⟨f, fd, F, hm, hb⟩ := T.f_law_stock
  refine ⟨f, fd, F.ok sc_law_stock (fun vs H Q E h => by first | (obtain ⟨rfl, _⟩ := h; rfl) | (obtain ⟨_, rfl, _⟩ := h; rfl) | (obtain ⟨_, _, rfl, _⟩ := h; rfl) | (obtain ⟨_, _, _, rfl, _⟩ := h; rfl) | (obtain ⟨_, _, _, _, rfl, _⟩ := h; rfl) | (obtain ⟨_, _, _, _, _, rfl, _⟩ := h; rfl) | (obtain ⟨_, _, _, _, _, _, rfl, _⟩ := h; rfl) | (obtain ⟨_, _, _, _, _, _, _, rfl, _⟩ := h; rfl) | (obtain ⟨_, _, _, _, _, _, _, _, rfl, _⟩ := h; rfl) | (obtain ⟨_, _, _, _, _, _, _, _, _, rfl, _⟩ := h; rfl) | (obtain ⟨_, _, _, _, _, _, _, _, _, _, rfl, _⟩ := h; rfl) | (obtain ⟨_, _, _, _, _, _, _, _, _, _, _, rfl, _⟩ := h; rfl) | (obtain ⟨_, _, _, _, _, _, _, _, _, _, _, _, rfl, _⟩ := h; rfl) | (obtain ⟨_, _, _, _, _, _, _, _, _, _, _, _, _, rfl, _⟩ := h; rfl) | (obtain ⟨_, _, _, _, _, _, _, _, _, _, _, _, _, _, rfl, _⟩ := h; rfl) | (obtain ⟨_, _, _, _, _, _, _, _, _, _, _, _, _, _, _, rfl, _⟩ := h; rfl) | (obtain ⟨_, _, _, _, _, _, _, _, _, _, _, _, _, _, _, _, rfl, _⟩ := h; rfl)) (fun cdv A outer s H vs Q E hr h => ?_), hm, F.kp, hb⟩
  obtain ⟨a, ns, at_, rfl, hS, hn, ha, k⟩ := h
  refine ⟨_, (pss_cons (ps_set (i := 2) sc_law_stock.nd rfl (.inl rfl) (pe_ifExp (pt_cmpR op_lt (pv 1) (pe_callB call_uLen (by rfl) T.b_len bt_len (pa_cons (pv 0) pa_nil)) (nomark _)) (pe_callTy call_uInt (by rfl) T.b_int bt_int (pa_cons (pe_ix ix_seq (pv 0) (pv 1) (fun _ _ => rfl)) pa_nil)) (pe_op op_uAdd (pe_op op_uMul pe_int (pe_callB (cr_sum rfl) (by rfl) T.b_sum bt_sum (pa_cons (pe_lc (own := [("one", 5)]) (by rfl) sc_law_stock.nd (pi_list (pe_slice sl_u (pv 0) po_none (po_some pe_int))) (blkOk_by (N := n_law_stock) (sc := defScope st_law_stock) (by decide +kernel)) (fun _ _ _ _ _ => (pg_name (i := 5) sc_law_stock.nd rfl (.inl rfl))) (fun _ _ _ _ _ => pts_nil) (fun _ _ _ _ _ => (pe_op op_mod (pe_callTy call_uInt (by rfl) T.b_int bt_int (pa_cons (pv 5) pa_nil)) pe_int))) pa_nil))) pe_int)))
      (pss_cons (ps_set (i := 3) sc_law_stock.nd rfl (.inl rfl) (pe_op op_mod (pe_callB call_uAbs (by rfl) T.b_abs bt_abs (pa_cons (pv 2) pa_nil)) (pe_op op_uMul (pe_op op_pow pe_int pe_int) (pe_op op_pow pe_int pe_int))))
      (pss_cons (ps_set (i := 4) sc_law_stock.nd rfl (.inl rfl) (pe_op op_mod (pe_callTy call_uInt (by rfl) T.b_int bt_int (pa_cons (pe_op op_uAdd (pe_op op_uAdd (pe_op op_uAdd (pe_op op_uMul pe_int (pv 3)) (pe_ifExp (pt_cmpR op_lt (pv 2) pe_int (nomark _)) pe_int pe_int)) (pe_op op_uMul (pv 1) pe_int)) pe_int) pa_nil)) pe_int))
      (pss_one (ps_ret (pe_lst (pa_cons (pe_ifExp (pt_cmpR op_ge (pv 3) (pe_op op_pow pe_int pe_int) (nomark _)) (pv 3) pe_int) (pa_cons (pe_op op_mod (pe_callTy call_uInt (by rfl) T.b_int bt_int (pa_cons (pe_op op_uMul (pe_op op_uAdd (pv 4) pe_int) (pe_op op_uAdd (pv 4) pe_int)) pa_nil)) pe_int) (pa_cons (pv 1) pa_nil))))))))), ?_⟩
  try dsimp only [cxOf, Cx.nox, Cx.wish]
  show (_ : TS) _ [some _, some _, none, none, none, none] _
  o_readsAll
  refine jnE (fun x H1 => ∃ c : Int, x = .int c ∧ Same H H1) ?_ (fun Q' hQ => br (fun hc => ?_) (fun hc => ?_))
  · rintro x H1 ⟨c, rfl, e1⟩
    o_readsAll
    refine jnE (fun x H1 => ∃ c : Int, x = .int c ∧ Same H H1) ?_ (fun Q' hQ => br (fun hc => ?_) (fun hc => ?_))
    · rintro x H2 ⟨c2, rfl, e2⟩
      o_readsAll
      refine jnE (fun x H1 => ∃ c : Int, x = .int c ∧ Same H H1) ?_ (fun Q' hQ => br (fun hc => ?_) (fun hc => ?_))
      · rintro x H3 ⟨c3, rfl, e3⟩
        o_readsAll
        exact k _ _ (e3.free (by assumption)) (e3.trans (by assumption)) ⟨_, _, _, by assumption⟩
      · o_readsAll
        exact hQ _ _ ⟨_, rfl, e2⟩
      · o_readsAll
        exact hQ _ _ ⟨_, rfl, e2⟩
    · o_readsAll
      exact hQ _ _ ⟨_, rfl, e1⟩
    · o_readsAll
      exact hQ _ _ ⟨_, rfl, e1⟩
  · rw [List.length_map] at hc
    o_readsAll
    refine g_ixL hS (v := .int (ns[at_]'(by omega))) (atI_nat (j := at_) (by rw [List.getElem?_map, List.getElem?_eq_getElem (by omega)]; rfl)) ?_
    o_readsAll
    exact hQ _ _ ⟨_, rfl, Same.refl _⟩
  · o_readsAll
    obtain ⟨ms, em, lm⟩ := cut5 ns none (some 5)
    rename_i p H1 hp e1 h1
    rw [em] at h1
    refine l_lstP (fun i => .int ((ms.getD i 0) % 1000003)) (.of h1) (fun x => rfl) (fun D i x H' hx hD e hl => ?_) fun q H2 hq e2 h2 => ?_
    · rw [List.getElem?_map] at hx
      obtain ⟨m, hm, rfl⟩ := Option.map_eq_some_iff.mp hx
      have hi := (List.getElem?_eq_some_iff.mp hm).1
      o_readsAll
      exact g_itemP e hl hD (by rw [sizeLine_eq]; omega) (by rw [List.getD_eq_getElem?_getD, hm]; rfl)
    · rw [show (List.range (ms.map V.int).length).map (fun i => V.int ((ms.getD i 0) % 1000003)) = ((List.range ms.length).map fun i => (ms.getD i 0) % 1000003).map V.int by rw [List.map_map, List.length_map]; rfl] at h2
      o_readsAll
      exact hQ _ _ ⟨_, rfl, e1.trans e2⟩
end
end L25

namespace L25
open SX
section
variable {P : Program} {w : World} {K : PySem.W.Frag} {mg : Str → Option Value} {base : Heap} {Z : Ad}
/-- the same data, so deep at most -/
def Alk (H : Hp) : Nat → V → V → Prop
  | 0, _, _ => False
  | n + 1, x, y => (x = .non ∧ y = .non) ∨ (∃ i : Int, x = .int i ∧ y = .int i) ∨ (∃ s : Str, x = .str s ∧ y = .str s) ∨ (∃ b : Bool, x = .bl b ∧ y = .bl b) ∨
    (∃ (a b : Addr) (xs ys : List V), x = .ref a ∧ y = .ref b ∧ H a = some (.tup xs) ∧ H b = some (.tup ys) ∧ xs.length = ys.length ∧ ys.length ≤ 1000000 ∧ ∀ (i : Nat) (u v : V), xs[i]? = some u → ys[i]? = some v → Alk H n u v) ∨
    (∃ (a b : Addr) (xs ys : List V), x = .ref a ∧ y = .ref b ∧ H a = some (.lst xs) ∧ H b = some (.lst ys) ∧ xs.length = ys.length ∧ ys.length ≤ 1000000 ∧ ∀ (i : Nat) (u v : V), xs[i]? = some u → ys[i]? = some v → Alk H n u v)
theorem Alk.same {H H' : Hp} (e : Same H H') : ∀ {n : Nat} {x y : V}, Alk H n x y → Alk H' n x y
  | 0, x, y, h => h.elim
  | n + 1, x, y, h => by
    rcases h with h | h | h | h | ⟨a, b, xs, ys, h1, h2, h3, h4, h5, h6, h7⟩ | ⟨a, b, xs, ys, h1, h2, h3, h4, h5, h6, h7⟩
    · exact .inl h
    · exact .inr (.inl h)
    · exact .inr (.inr (.inl h))
    · exact .inr (.inr (.inr (.inl h)))
    · exact .inr (.inr (.inr (.inr (.inl ⟨a, b, xs, ys, h1, h2, e _ _ h3, e _ _ h4, h5, h6, fun i u v p q => Alk.same e (h7 i u v p q)⟩))))
    · exact .inr (.inr (.inr (.inr (.inr ⟨a, b, xs, ys, h1, h2, e _ _ h3, e _ _ h4, h5, h6, fun i u v p q => Alk.same e (h7 i u v p q)⟩))))
def sp_mat (n : Nat) : Sp := fun vs H Q _ => ∃ x y, vs = [x, y] ∧ Alk H n x y ∧ ∀ H', Same H H' → Q (.bl true) H'
theorem d_law_matches (T : Txt K w mg Z) : ∀ n, Dfn P w K mg base (n + 1) "_law_matches" ["answer", "due"] (sp_mat n)
  | 0 => by
    obtain ⟨f, fd, F, hm, hb⟩ := T.f_law_matches
    refine ⟨f, fd, F.ok sc_law_matches (fun vs H Q E h => by first | (obtain ⟨rfl, _⟩ := h; rfl) | (obtain ⟨_, rfl, _⟩ := h; rfl) | (obtain ⟨_, _, rfl, _⟩ := h; rfl) | (obtain ⟨_, _, _, rfl, _⟩ := h; rfl) | (obtain ⟨_, _, _, _, rfl, _⟩ := h; rfl) | (obtain ⟨_, _, _, _, _, rfl, _⟩ := h; rfl) | (obtain ⟨_, _, _, _, _, _, rfl, _⟩ := h; rfl) | (obtain ⟨_, _, _, _, _, _, _, rfl, _⟩ := h; rfl) | (obtain ⟨_, _, _, _, _, _, _, _, rfl, _⟩ := h; rfl) | (obtain ⟨_, _, _, _, _, _, _, _, _, rfl, _⟩ := h; rfl) | (obtain ⟨_, _, _, _, _, _, _, _, _, _, rfl, _⟩ := h; rfl) | (obtain ⟨_, _, _, _, _, _, _, _, _, _, _, rfl, _⟩ := h; rfl) | (obtain ⟨_, _, _, _, _, _, _, _, _, _, _, _, rfl, _⟩ := h; rfl) | (obtain ⟨_, _, _, _, _, _, _, _, _, _, _, _, _, rfl, _⟩ := h; rfl) | (obtain ⟨_, _, _, _, _, _, _, _, _, _, _, _, _, _, rfl, _⟩ := h; rfl) | (obtain ⟨_, _, _, _, _, _, _, _, _, _, _, _, _, _, _, rfl, _⟩ := h; rfl) | (obtain ⟨_, _, _, _, _, _, _, _, _, _, _, _, _, _, _, _, rfl, _⟩ := h; rfl)) (fun cdv A outer s H vs Q E hr h => ?_), hm, F.kp, hb⟩
    obtain ⟨x, y, rfl, h, k⟩ := h
    exact h.elim
  | n + 1 => by
    have D_law_matches := d_law_matches T n
    obtain ⟨f, fd, F, hm, hb⟩ := T.f_law_matches
    refine ⟨f, fd, F.ok sc_law_matches (fun vs H Q E h => by first | (obtain ⟨rfl, _⟩ := h; rfl) | (obtain ⟨_, rfl, _⟩ := h; rfl) | (obtain ⟨_, _, rfl, _⟩ := h; rfl) | (obtain ⟨_, _, _, rfl, _⟩ := h; rfl) | (obtain ⟨_, _, _, _, rfl, _⟩ := h; rfl) | (obtain ⟨_, _, _, _, _, rfl, _⟩ := h; rfl) | (obtain ⟨_, _, _, _, _, _, rfl, _⟩ := h; rfl) | (obtain ⟨_, _, _, _, _, _, _, rfl, _⟩ := h; rfl) | (obtain ⟨_, _, _, _, _, _, _, _, rfl, _⟩ := h; rfl) | (obtain ⟨_, _, _, _, _, _, _, _, _, rfl, _⟩ := h; rfl) | (obtain ⟨_, _, _, _, _, _, _, _, _, _, rfl, _⟩ := h; rfl) | (obtain ⟨_, _, _, _, _, _, _, _, _, _, _, rfl, _⟩ := h; rfl) | (obtain ⟨_, _, _, _, _, _, _, _, _, _, _, _, rfl, _⟩ := h; rfl) | (obtain ⟨_, _, _, _, _, _, _, _, _, _, _, _, _, rfl, _⟩ := h; rfl) | (obtain ⟨_, _, _, _, _, _, _, _, _, _, _, _, _, _, rfl, _⟩ := h; rfl) | (obtain ⟨_, _, _, _, _, _, _, _, _, _, _, _, _, _, _, rfl, _⟩ := h; rfl) | (obtain ⟨_, _, _, _, _, _, _, _, _, _, _, _, _, _, _, _, rfl, _⟩ := h; rfl)) (fun cdv A outer s H vs Q E hr h => ?_), hm, F.kp, hb⟩
    obtain ⟨x, y, rfl, h, k⟩ := h
    refine ⟨_, (pss_cons (ps_if (PW.pt (pw_or (pt_cmpR op_uIsN (pv 1) pe_non (nomark _)) (pw_or1 (pt_cmpR op_uIsN (pv 0) pe_non (nomark _))))) (pss_one (ps_ret (pe_and (pe_cmpR op_uIsN (pv 1) pe_non (nomark _)) (pe_one (pe_cmpR op_uIsN (pv 0) pe_non (nomark _)))))) pss_nil)
      (pss_cons (ps_if (PW.pt (pw_or (pt_u (pe_callB call_isi (by rfl) T.b_isinstance bt_isinstance (pa_cons (pv 1) (pa_cons (pe_bltn (v := .ty "bool") (by rfl) T.b_bool bt_bool rfl) pa_nil)))) (pw_or1 (pt_u (pe_callB call_isi (by rfl) T.b_isinstance bt_isinstance (pa_cons (pv 0) (pa_cons (pe_bltn (v := .ty "bool") (by rfl) T.b_bool bt_bool rfl) pa_nil))))))) (pss_one (ps_ret (pe_and (pe_callB call_isi (by rfl) T.b_isinstance bt_isinstance (pa_cons (pv 1) (pa_cons (pe_bltn (v := .ty "bool") (by rfl) T.b_bool bt_bool rfl) pa_nil))) (pe_and (pe_callB call_isi (by rfl) T.b_isinstance bt_isinstance (pa_cons (pv 0) (pa_cons (pe_bltn (v := .ty "bool") (by rfl) T.b_bool bt_bool rfl) pa_nil))) (pe_one (pe_cmpR (op_uEq hr.units) (pv 0) (pv 1) (nomark _))))))) pss_nil)
      (pss_cons (ps_if (pt_u (pe_callB call_isi (by rfl) T.b_isinstance bt_isinstance (pa_cons (pv 1) (pa_cons (pe_bltn (v := .ty "int") (by rfl) T.b_int bt_int rfl) pa_nil)))) (pss_one (ps_ret (pe_and (pe_callB call_isi (by rfl) T.b_isinstance bt_isinstance (pa_cons (pv 0) (pa_cons (pe_bltn (v := .ty "int") (by rfl) T.b_int bt_int rfl) pa_nil))) (pe_one (pe_cmpR (op_uEq hr.units) (pv 0) (pv 1) (nomark _)))))) pss_nil)
      (pss_cons (ps_if (pt_u (pe_callB call_isi (by rfl) T.b_isinstance bt_isinstance (pa_cons (pv 1) (pa_cons (pe_bltn (v := .ty "str") (by rfl) T.b_str bt_str rfl) pa_nil)))) (pss_one (ps_ret (pe_and (pe_callB call_isi (by rfl) T.b_isinstance bt_isinstance (pa_cons (pv 0) (pa_cons (pe_bltn (v := .ty "str") (by rfl) T.b_str bt_str rfl) pa_nil))) (pe_one (pe_cmpR (op_uEq hr.units) (pv 0) (pv 1) (nomark _)))))) pss_nil)
      (pss_cons (ps_if (PW.pt (pw_and (pt_u (pe_callB call_isi (by rfl) T.b_isinstance bt_isinstance (pa_cons (pv 1) (pa_cons (pe_bltn (v := .ty "tuple") (by rfl) T.b_tuple bt_tuple rfl) pa_nil)))) (pw_and1 (pt_not (pt_u (pe_callB call_isi (by rfl) T.b_isinstance bt_isinstance (pa_cons (pv 0) (pa_cons (pe_bltn (v := .ty "tuple") (by rfl) T.b_tuple bt_tuple rfl) pa_nil)))))))) (pss_one (ps_ret pe_bl)) pss_nil)
      (pss_cons (ps_if (PW.pt (pw_and (pt_u (pe_callB call_isi (by rfl) T.b_isinstance bt_isinstance (pa_cons (pv 1) (pa_cons (pe_bltn (v := .ty "list") (by rfl) T.b_list bt_list rfl) pa_nil)))) (pw_and1 (pt_not (pt_u (pe_callB call_isi (by rfl) T.b_isinstance bt_isinstance (pa_cons (pv 0) (pa_cons (pe_bltn (v := .ty "list") (by rfl) T.b_list bt_list rfl) pa_nil)))))))) (pss_one (ps_ret pe_bl)) pss_nil)
      (pss_cons (ps_if (pt_cmpR (op_uNe hr.units) (pe_callB call_uLen (by rfl) T.b_len bt_len (pa_cons (pv 0) pa_nil)) (pe_callB call_uLen (by rfl) T.b_len bt_len (pa_cons (pv 1) pa_nil)) (nomark _)) (pss_one (ps_ret pe_bl)) pss_nil)
      (pss_cons (ps_for PassesOwn.never rfl (pi_range1 (by rfl) T.b_range (pa_cons (pe_callB call_uLen (by rfl) T.b_len bt_len (pa_cons (pv 1) pa_nil)) pa_nil)) (pg_name (i := 2) sc_law_matches.nd rfl (.inl rfl))
        (pss_one (ps_if (pt_not (pt_u (pe_dfn D_law_matches (hr.mono (by omega)) (by rfl) (pa_cons (pe_ix ix_seq (pv 0) (pv 2) (fun _ _ => rfl)) (pa_cons (pe_ix ix_seq (pv 1) (pv 2) (fun _ _ => rfl)) pa_nil))))) (pss_one (ps_ret pe_bl)) pss_nil)))
      (pss_one (ps_ret pe_bl)))))))))), ?_⟩
    try dsimp only [cxOf, Cx.nox, Cx.wish]
    show (_ : TS) _ [some _, some _, none] _
    rcases h with ⟨rfl, rfl⟩ | ⟨i, rfl, rfl⟩ | ⟨z, rfl, rfl⟩ | ⟨z, rfl, rfl⟩ | ⟨a, b, xs, ys, rfl, rfl, h1, h2, hl, hs, hk⟩ | ⟨a, b, xs, ys, rfl, rfl, h1, h2, hl, hs, hk⟩
    · o_readsAll
      exact k _ (Same.refl _)
    · o_readsAll
      rw [decide_eq_true rfl]
      exact k _ (Same.refl _)
    · o_readsAll
      rw [decide_eq_true rfl]
      exact k _ (Same.refl _)
    · o_readsAll
      refine g_eqB ?_
      rw [decide_eq_true rfl]
      exact k _ (Same.refl _)
    · o_readsAll
      refine brn (fun h => absurd (by rw [hl]) h) (fun _ => ?_)
      o_readsAll
      refine f_rng (fun i σ' H' => ∃ x, σ' = [some (.ref a), some (.ref b), x] ∧ Same H H') ⟨_, rfl, Same.refl _⟩ ?_ ?_
      · rintro i σ' H1 hi ⟨x, rfl, e1⟩
        have hi' : i < ys.length := by omega
        have hx : xs[i]? = some (xs[i]'(by omega)) := List.getElem?_eq_getElem _
        have hy : ys[i]? = some (ys[i]'hi') := List.getElem?_eq_getElem _
        generalize xs[i]'(by omega) = u at hx
        generalize ys[i]'hi' = v at hy
        rw [Int.zero_add]
        o_readsAll
        refine g_ixT (.of (e1 _ _ h1)) (atI_nat hx) ?_
        o_readsAll
        refine g_ixT (.of (e1 _ _ h2)) (atI_nat hy) ?_
        o_readsAll
        refine ⟨_, _, rfl, (hk i u v hx hy).same e1, fun H2 e2 => ?_⟩
        o_readsAll
        exact ⟨_, rfl, e1.trans e2⟩
      · rintro σ' H1 ⟨x, rfl, e1⟩
        o_readsAll
        exact k _ e1
    · o_readsAll
      refine brn (fun h => absurd (by rw [hl]) h) (fun _ => ?_)
      o_readsAll
      refine f_rng (fun i σ' H' => ∃ x, σ' = [some (.ref a), some (.ref b), x] ∧ Same H H') ⟨_, rfl, Same.refl _⟩ ?_ ?_
      · rintro i σ' H1 hi ⟨x, rfl, e1⟩
        have hi' : i < ys.length := by omega
        have hx : xs[i]? = some (xs[i]'(by omega)) := List.getElem?_eq_getElem _
        have hy : ys[i]? = some (ys[i]'hi') := List.getElem?_eq_getElem _
        generalize xs[i]'(by omega) = u at hx
        generalize ys[i]'hi' = v at hy
        rw [Int.zero_add]
        o_readsAll
        refine g_ixL (.of (e1 _ _ h1)) (atI_nat hx) ?_
        o_readsAll
        refine g_ixL (.of (e1 _ _ h2)) (atI_nat hy) ?_
        o_readsAll
        refine ⟨_, _, rfl, (hk i u v hx hy).same e1, fun H2 e2 => ?_⟩
        o_readsAll
        exact ⟨_, rfl, e1.trans e2⟩
      · rintro σ' H1 ⟨x, rfl, e1⟩
        o_readsAll
        exact k _ e1
end
end L25

namespace L25
open SX Ld
section
variable {P : Program} {w : World} {K : PySem.W.Frag} {mg : Str → Option Value} {base : Heap} {Z : Ad}
def sp_grown (K : PySem.W.Frag) : Sp := fun vs H Q _ => ∃ (L x : Int) (fl ch : Addr) (n : Nat) (fs c : Nat → Int), vs = [.int L, .ref fl, .int x, .ref ch] ∧ IL H fl n fs ∧ IL H ch n c ∧ n ≤ 40 ∧ OkF fs ∧ 0 ≤ L ∧ L ≤ 6 ∧ ∀ p H', H p = none → Same H H' → IL H' p (n + 1) (gv L fs x c) → Q (.ref p) H'
theorem d_grown (T : Txt K w mg Z) : Dfn P w K mg base 1 "grown" ["lanes", "falls", "first", "charges"] (sp_grown K) := by
  obtain ⟨f, fd, F, hm, hb⟩ := T.f_grown
  refine ⟨f, fd, F.ok sc_grown (fun vs H Q E h => by first | (obtain ⟨rfl, _⟩ := h; rfl) | (obtain ⟨_, rfl, _⟩ := h; rfl) | (obtain ⟨_, _, rfl, _⟩ := h; rfl) | (obtain ⟨_, _, _, rfl, _⟩ := h; rfl) | (obtain ⟨_, _, _, _, rfl, _⟩ := h; rfl) | (obtain ⟨_, _, _, _, _, rfl, _⟩ := h; rfl) | (obtain ⟨_, _, _, _, _, _, rfl, _⟩ := h; rfl) | (obtain ⟨_, _, _, _, _, _, _, rfl, _⟩ := h; rfl) | (obtain ⟨_, _, _, _, _, _, _, _, rfl, _⟩ := h; rfl) | (obtain ⟨_, _, _, _, _, _, _, _, _, rfl, _⟩ := h; rfl) | (obtain ⟨_, _, _, _, _, _, _, _, _, _, rfl, _⟩ := h; rfl) | (obtain ⟨_, _, _, _, _, _, _, _, _, _, _, rfl, _⟩ := h; rfl) | (obtain ⟨_, _, _, _, _, _, _, _, _, _, _, _, rfl, _⟩ := h; rfl) | (obtain ⟨_, _, _, _, _, _, _, _, _, _, _, _, _, rfl, _⟩ := h; rfl) | (obtain ⟨_, _, _, _, _, _, _, _, _, _, _, _, _, _, rfl, _⟩ := h; rfl) | (obtain ⟨_, _, _, _, _, _, _, _, _, _, _, _, _, _, _, rfl, _⟩ := h; rfl) | (obtain ⟨_, _, _, _, _, _, _, _, _, _, _, _, _, _, _, _, rfl, _⟩ := h; rfl)) (fun cdv A outer s H vs Q E hr h => ?_), hm, F.kp, hb⟩
  obtain ⟨L, x, fl, ch, n, fs, c, rfl, hf, hc, hn, ok, hL, hL6, k⟩ := h
  refine ⟨_, (pss_cons (ps_set (i := 4) sc_grown.nd rfl (.inl rfl) (pe_lst (pa_cons (pv 2) pa_nil)))
      (pss_cons (ps_for PassesOwn.never rfl (pi_enum (by rfl) T.b_enumerate (pa_cons (pv 1) pa_nil)) (pg_tup (by rfl) (pgs_cons (pg_name (i := 5) sc_grown.nd rfl (.inl rfl)) (pgs_cons (pg_name (i := 6) sc_grown.nd rfl (.inl rfl)) pgs_nil)))
        (pss_cons (ps_set (i := 7) sc_grown.nd rfl (.inl rfl) (pe_ifExp (pt_cmpR (op_uEq hr.units) (pv 6) (pe_gi T.c_OUT) (nomark _)) pe_int (pe_ix ix_seq (pv 4) (pv 6) (fun _ _ => rfl))))
      (pss_one (ps_expr (pe_bm PySem.F.plainAttrs_list PySem.F.slot_list_append PySem.F.type_list_append mt_append (pv 4) (pa_cons (pe_op op_uAdd (pe_op op_sub (pe_op op_uMul (pv 0) (pe_ix ix_seq (pv 4) (pv 5) (fun _ _ => rfl))) (pe_op op_uMul (pe_op op_sub (pv 0) pe_int) (pv 7))) (pe_ix ix_seq (pv 3) (pv 5) (fun _ _ => rfl))) pa_nil))))))
      (pss_one (ps_ret (pv 4))))), ?_⟩
  try dsimp only [cxOf, Cx.nox, Cx.wish]
  show (_ : TS) _ [some _, some _, some _, some _, none, none, none, none] _
  o_readsAll
  rename_i r H1 hr e1 h1 N hN
  refine f_enum (xs := rng n fs) (fun i σ' H' => ∃ a b d, σ' = [some (.int L), some (.ref fl), some (.int x), some (.ref ch), some (.ref r), a, b, d] ∧ Same H H' ∧ IL H' r (i + 1) (gv L fs x c)) ⟨_, _, _, rfl, e1, h1⟩ ?_ ?_ ?_
  · rintro i σ' H2 hi ⟨a, b, d, rfl, e2, h2⟩
    exact (hf.same e2).sq
  · rintro i y σ' H2 T1 H3 hy ⟨a, b, d, rfl, e2, h2⟩ hT e3 h3
    have hi : i < n := by have := (List.getElem?_eq_some_iff.mp hy).1; rw [rng_len] at this; exact this
    rw [rng_at hi] at hy
    cases hy
    have hc3 := (hc.same e2).same e3
    have h23 := h2.same e3
    have okf := ok i
    o_readsAll
    refine jnE (fun y H' => y = .int (lowV (gv L fs x c) (fs i)) ∧ H' = H3) ?_ (fun Q' hQ => br (fun h => ?_) (fun h => ?_))
    · rintro y H' ⟨rfl, rfl⟩
      o_readsAll
      refine g_ixL h23.sq (atI_nat (rng_at (by omega))) ?_
      o_readsAll
      refine g_ixL hc3.sq (atI_nat (rng_at hi)) ?_
      o_readsAll
      refine ⟨_, _, _, rfl, Eg.Same.put (e2.trans e3) hr, ?_⟩
      show upd _ _ _ _ = _
      rw [upd_same, rng_succ (i + 1), gv_succ okf.2.1]
    · o_readsAll
      exact hQ _ _ ⟨by unfold lowV; rw [if_pos (by omega)], rfl⟩
    · o_readsAll
      refine g_ixL h23.sq (at_ofN (j := (fs i).toNat) (by omega) (rng_at (by omega))) ?_
      exact hQ _ _ ⟨by unfold lowV; rw [if_neg (by omega)], rfl⟩
  · rintro σ' H2 ⟨a, b, d, rfl, e2, h2⟩
    o_readsAll
    rw [rng_len] at h2
    exact k r H2 hr e2 h2
theorem c_grown {L x : Int} {fl ch : Addr} {n : Nat} {fs c : Nat → Int} {H : Hp} {Q : VK} {E : XK} (hf : IL H fl n fs) (hc : IL H ch n c) (hn : n ≤ 40) (ok : OkF fs) (hL : 0 ≤ L) (hL6 : L ≤ 6) (k : ∀ p H', H p = none → Same H H' → IL H' p (n + 1) (gv L fs x c) → Q (.ref p) H') : sp_grown K [.int L, .ref fl, .int x, .ref ch] H Q E := ⟨L, x, fl, ch, n, fs, c, rfl, hf, hc, hn, ok, hL, hL6, k⟩
def sp_row (c : Int) (v : Int → (Nat → Int) → Nat → Int) : Sp := fun vs H Q _ => ∃ (L : Int) (fl : Addr) (n : Nat) (fs : Nat → Int), vs = [.int L, .ref fl] ∧ IL H fl n fs ∧ n ≤ 40 ∧ OkF fs ∧ 0 ≤ L ∧ L ≤ 6 ∧ ∀ p H', H p = none → Same H H' → IL H' p (n + 1) (v L fs) → Q (.ref p) H'
def wd (L : Int) (fs : Nat → Int) (b : Nat) : Int := gv L fs 0 (fun _ => 1) b
theorem d_head_row (T : Txt K w mg Z) : Dfn P w K mg base 2 "head_row" ["lanes", "falls"] (sp_row 1 hd) := by
  obtain ⟨f, fd, F, hm, hb⟩ := T.f_head_row
  refine ⟨f, fd, F.ok sc_head_row (fun vs H Q E h => by first | (obtain ⟨rfl, _⟩ := h; rfl) | (obtain ⟨_, rfl, _⟩ := h; rfl) | (obtain ⟨_, _, rfl, _⟩ := h; rfl) | (obtain ⟨_, _, _, rfl, _⟩ := h; rfl) | (obtain ⟨_, _, _, _, rfl, _⟩ := h; rfl) | (obtain ⟨_, _, _, _, _, rfl, _⟩ := h; rfl) | (obtain ⟨_, _, _, _, _, _, rfl, _⟩ := h; rfl) | (obtain ⟨_, _, _, _, _, _, _, rfl, _⟩ := h; rfl) | (obtain ⟨_, _, _, _, _, _, _, _, rfl, _⟩ := h; rfl) | (obtain ⟨_, _, _, _, _, _, _, _, _, rfl, _⟩ := h; rfl) | (obtain ⟨_, _, _, _, _, _, _, _, _, _, rfl, _⟩ := h; rfl) | (obtain ⟨_, _, _, _, _, _, _, _, _, _, _, rfl, _⟩ := h; rfl) | (obtain ⟨_, _, _, _, _, _, _, _, _, _, _, _, rfl, _⟩ := h; rfl) | (obtain ⟨_, _, _, _, _, _, _, _, _, _, _, _, _, rfl, _⟩ := h; rfl) | (obtain ⟨_, _, _, _, _, _, _, _, _, _, _, _, _, _, rfl, _⟩ := h; rfl) | (obtain ⟨_, _, _, _, _, _, _, _, _, _, _, _, _, _, _, rfl, _⟩ := h; rfl) | (obtain ⟨_, _, _, _, _, _, _, _, _, _, _, _, _, _, _, _, rfl, _⟩ := h; rfl)) (fun cdv A outer s H vs Q E hr h => ?_), hm, F.kp, hb⟩
  obtain ⟨L, fl, n, fs, rfl, hf, hn, ok, hL, hL6, k⟩ := h
  have D_grown := d_grown (P := P) (base := base) T
  refine ⟨_, (pss_one (ps_ret (pe_dfn D_grown (hr.mono (by decide)) (by rfl) (pa_cons (pv 0) (pa_cons (pv 1) (pa_cons pe_int (pa_cons (pe_lc (own := [("_", 2)]) (by rfl) sc_head_row.nd (pi_list (pv 1)) (blkOk_by (N := n_head_row) (sc := defScope st_head_row) (by decide +kernel)) (fun _ _ _ _ _ => (pg_name (i := 2) sc_head_row.nd rfl (.inl rfl))) (fun _ _ _ _ _ => pts_nil) (fun _ _ _ _ _ => pe_int)) pa_nil))))))), ?_⟩
  try dsimp only [cxOf, Cx.nox, Cx.wish]
  show (_ : TS) _ [some _, some _, none] _
  o_readsAll
  refine l_lstP (fun i => .int 0) (xs := rng n fs) hf.sq (fun x => rfl) (fun D i x H' hx hD e hl => ?_) fun q H2 hq e2 h2 => ?_
  · have hi := (List.getElem?_eq_some_iff.mp hx).1
    rw [rng_len] at hi
    o_readsAll
    exact g_itemP e hl hD (by rw [sizeLine_eq]; omega) rfl
  · rw [rng_len] at h2
    o_readsAll
    refine c_grown (hf.same e2) h2 hn ok hL hL6 fun p H3 hp e3 h3 => ?_
    exact k p H3 (e2.free hp) (e2.trans e3) h3
theorem d_worth_row (T : Txt K w mg Z) : Dfn P w K mg base 2 "worth_row" ["lanes", "falls"] (sp_row 0 wd) := by
  obtain ⟨f, fd, F, hm, hb⟩ := T.f_worth_row
  refine ⟨f, fd, F.ok sc_worth_row (fun vs H Q E h => by first | (obtain ⟨rfl, _⟩ := h; rfl) | (obtain ⟨_, rfl, _⟩ := h; rfl) | (obtain ⟨_, _, rfl, _⟩ := h; rfl) | (obtain ⟨_, _, _, rfl, _⟩ := h; rfl) | (obtain ⟨_, _, _, _, rfl, _⟩ := h; rfl) | (obtain ⟨_, _, _, _, _, rfl, _⟩ := h; rfl) | (obtain ⟨_, _, _, _, _, _, rfl, _⟩ := h; rfl) | (obtain ⟨_, _, _, _, _, _, _, rfl, _⟩ := h; rfl) | (obtain ⟨_, _, _, _, _, _, _, _, rfl, _⟩ := h; rfl) | (obtain ⟨_, _, _, _, _, _, _, _, _, rfl, _⟩ := h; rfl) | (obtain ⟨_, _, _, _, _, _, _, _, _, _, rfl, _⟩ := h; rfl) | (obtain ⟨_, _, _, _, _, _, _, _, _, _, _, rfl, _⟩ := h; rfl) | (obtain ⟨_, _, _, _, _, _, _, _, _, _, _, _, rfl, _⟩ := h; rfl) | (obtain ⟨_, _, _, _, _, _, _, _, _, _, _, _, _, rfl, _⟩ := h; rfl) | (obtain ⟨_, _, _, _, _, _, _, _, _, _, _, _, _, _, rfl, _⟩ := h; rfl) | (obtain ⟨_, _, _, _, _, _, _, _, _, _, _, _, _, _, _, rfl, _⟩ := h; rfl) | (obtain ⟨_, _, _, _, _, _, _, _, _, _, _, _, _, _, _, _, rfl, _⟩ := h; rfl)) (fun cdv A outer s H vs Q E hr h => ?_), hm, F.kp, hb⟩
  obtain ⟨L, fl, n, fs, rfl, hf, hn, ok, hL, hL6, k⟩ := h
  have D_grown := d_grown (P := P) (base := base) T
  refine ⟨_, (pss_one (ps_ret (pe_dfn D_grown (hr.mono (by decide)) (by rfl) (pa_cons (pv 0) (pa_cons (pv 1) (pa_cons pe_int (pa_cons (pe_lc (own := [("_", 2)]) (by rfl) sc_worth_row.nd (pi_list (pv 1)) (blkOk_by (N := n_worth_row) (sc := defScope st_worth_row) (by decide +kernel)) (fun _ _ _ _ _ => (pg_name (i := 2) sc_worth_row.nd rfl (.inl rfl))) (fun _ _ _ _ _ => pts_nil) (fun _ _ _ _ _ => pe_int)) pa_nil))))))), ?_⟩
  try dsimp only [cxOf, Cx.nox, Cx.wish]
  show (_ : TS) _ [some _, some _, none] _
  o_readsAll
  refine l_lstP (fun i => .int 1) (xs := rng n fs) hf.sq (fun x => rfl) (fun D i x H' hx hD e hl => ?_) fun q H2 hq e2 h2 => ?_
  · have hi := (List.getElem?_eq_some_iff.mp hx).1
    rw [rng_len] at hi
    o_readsAll
    exact g_itemP e hl hD (by rw [sizeLine_eq]; omega) rfl
  · rw [rng_len] at h2
    o_readsAll
    refine c_grown (hf.same e2) h2 hn ok hL hL6 fun p H3 hp e3 h3 => ?_
    exact k p H3 (e2.free hp) (e2.trans e3) h3
/-- the rows of loads -/
def RowsAt (H : Hp) (ps : List Addr) (n : Nat) (L : Int) (fs : Nat → Int) : Prop := ∀ a q, ps[a]? = some q → IL H q (n + 1) (ld L fs a)
theorem RowsAt.snoc {H : Hp} {qs : List Addr} {n : Nat} {L : Int} {fs : Nat → Int} {r D : Addr} {o : HO} (h : RowsAt H qs n L fs) (hr : IL H r (n + 1) (ld L fs qs.length)) (e : H D = some (.lst (qs.map V.ref))) : RowsAt (upd H D o) (qs ++ [r]) n L fs := by
  intro a q hq
  by_cases ha : a < qs.length
  · rw [List.getElem?_append_left ha] at hq
    show upd _ _ _ _ = _
    rw [upd_ne (il_ne (h a q hq) e)]
    exact h a q hq
  · have ha2 := (List.getElem?_eq_some_iff.mp hq).1
    rw [List.length_append, List.length_cons, List.length_nil] at ha2
    rw [List.getElem?_append_right (by omega), show a - qs.length = 0 by omega] at hq
    cases hq
    show upd _ _ _ _ = _
    rw [upd_ne (il_ne hr e), show a = qs.length by omega]
    exact hr
theorem RowsAt.same {H H' : Hp} {ps : List Addr} {n : Nat} {L : Int} {fs : Nat → Int} (h : RowsAt H ps n L fs) (e : Same H H') : RowsAt H' ps n L fs := fun a q hq => (h a q hq).same e
def sp_lrows : Sp := fun vs H Q _ => ∃ (L : Int) (fl : Addr) (n : Nat) (fs : Nat → Int), vs = [.int L, .ref fl] ∧ IL H fl n fs ∧ n ≤ 40 ∧ OkF fs ∧ 0 ≤ L ∧ L ≤ 6 ∧ ∀ p ps H', H p = none → Same H H' → H' p = some (.lst (ps.map V.ref)) → ps.length = n → RowsAt H' ps n L fs → (∀ q ∈ ps, H q = none) → Q (.ref p) H'
theorem d_load_rows (T : Txt K w mg Z) : Dfn P w K mg base 2 "load_rows" ["lanes", "falls"] (sp_lrows) := by
  obtain ⟨f, fd, F, hm, hb⟩ := T.f_load_rows
  refine ⟨f, fd, F.ok sc_load_rows (fun vs H Q E h => by first | (obtain ⟨rfl, _⟩ := h; rfl) | (obtain ⟨_, rfl, _⟩ := h; rfl) | (obtain ⟨_, _, rfl, _⟩ := h; rfl) | (obtain ⟨_, _, _, rfl, _⟩ := h; rfl) | (obtain ⟨_, _, _, _, rfl, _⟩ := h; rfl) | (obtain ⟨_, _, _, _, _, rfl, _⟩ := h; rfl) | (obtain ⟨_, _, _, _, _, _, rfl, _⟩ := h; rfl) | (obtain ⟨_, _, _, _, _, _, _, rfl, _⟩ := h; rfl) | (obtain ⟨_, _, _, _, _, _, _, _, rfl, _⟩ := h; rfl) | (obtain ⟨_, _, _, _, _, _, _, _, _, rfl, _⟩ := h; rfl) | (obtain ⟨_, _, _, _, _, _, _, _, _, _, rfl, _⟩ := h; rfl) | (obtain ⟨_, _, _, _, _, _, _, _, _, _, _, rfl, _⟩ := h; rfl) | (obtain ⟨_, _, _, _, _, _, _, _, _, _, _, _, rfl, _⟩ := h; rfl) | (obtain ⟨_, _, _, _, _, _, _, _, _, _, _, _, _, rfl, _⟩ := h; rfl) | (obtain ⟨_, _, _, _, _, _, _, _, _, _, _, _, _, _, rfl, _⟩ := h; rfl) | (obtain ⟨_, _, _, _, _, _, _, _, _, _, _, _, _, _, _, rfl, _⟩ := h; rfl) | (obtain ⟨_, _, _, _, _, _, _, _, _, _, _, _, _, _, _, _, rfl, _⟩ := h; rfl)) (fun cdv A outer s H vs Q E hr h => ?_), hm, F.kp, hb⟩
  obtain ⟨L, fl, n, fs, rfl, hf, hn, ok, hL, hL6, k⟩ := h
  have D_grown := d_grown (P := P) (base := base) T
  refine ⟨_, (pss_cons (ps_set (i := 2) sc_load_rows.nd rfl (.inr rfl) (pe_callTy call_uRng (by rfl) T.b_range bt_range (pa_cons (pe_callB call_uLen (by rfl) T.b_len bt_len (pa_cons (pv 1) pa_nil)) pa_nil)))
      (pss_one (ps_ret (pe_lc (own := [("a", 3)]) (by rfl) sc_load_rows.nd (pi_range1 (by rfl) T.b_range (pa_cons (pe_callB call_uLen (by rfl) T.b_len bt_len (pa_cons (pv 1) pa_nil)) pa_nil)) (blkOk_by (N := n_load_rows) (sc := defScope st_load_rows) (by decide +kernel)) (fun _ _ _ _ _ => (pg_name (i := 3) sc_load_rows.nd rfl (.inr rfl))) (fun _ _ _ _ _ => pts_nil) (fun _ _ _ _ _ => (pe_dfn D_grown (hr.mono (by decide)) (by rfl) (pa_cons (pv 0) (pa_cons (pv 1) (pa_cons pe_int (pa_cons (pe_lc (own := [("b", 4)]) (by rfl) sc_load_rows.nd (pi_rng (pv 2)) (blkOk_by (N := n_load_rows) (sc := (⟨.function, [(PySem.Str.ofString ".0", .local), (PySem.Str.ofString "a", .cell), (PySem.Str.ofString "grown", .globalImplicit), (PySem.Str.ofString "falls", .cell), (PySem.Str.ofString "lanes", .cell), (PySem.Str.ofString "rungs", .cell)], false, false, []⟩ : Scope)) (by decide +kernel)) (fun _ _ _ _ _ => (pg_name (i := 4) sc_load_rows.nd rfl (.inl rfl))) (fun _ _ _ _ _ => pts_nil) (fun _ _ _ _ _ => (pe_ifExp (pt_cmpR (op_uEqK (K := K) rfl hr.units) (pv 4) (pv 3) (nomark _)) pe_int pe_int))) pa_nil)))))))))), ?_⟩
  try dsimp only [cxOf, Cx.nox, Cx.wish]
  show (_ : TS) _ [some _, some _, none, none, none] _
  o_readsAll
  rename_i N hN rp H1 hrp e1 h1
  rw [rng_len, Int.toNat_natCast]
  refine l_it walk_range (fun D i acc H' => ∃ ps : List Addr, acc = ps.map V.ref ∧ ps.length = i ∧ Same H1 H' ∧ RowsAt H' ps n L fs ∧ ∀ q ∈ ps, H1 q = none) (fun D hD => ⟨[], rfl, rfl, Eg.Same.put (Same.refl _) hD, (fun _ _ h => nomatch h), fun _ h => nomatch h⟩) (fun _ _ _ _ _ _ _ _ => trivial) (fun D i x acc H2 H3 hD hi e l p y => ?_) (fun D acc H' hD e l p => ?_)
  · obtain ⟨ps, rfl, hpl, e2, hR, hfr⟩ := p
    obtain ⟨y1, y2⟩ := y
    subst y1 y2
    refine ⟨rfl, ?_⟩
    have h3 := e2 _ _ h1
    rw [rng_len] at h3
    o_readsAll
    refine l_rngP (fun b => .int (dl i b)) (fun x => rfl) (fun D' b H4 hb hD' e4 h4 => ?_) fun q H4 hq e4 h4 => ?_
    · rw [Int.sub_zero, Int.toNat_natCast] at hb
      o_readsAll
      refine br (fun h => ?_) (fun h => ?_)
      · o_readsAll
        exact g_itemP e4 h4 hD' (by rw [sizeLine_eq]; omega) (by unfold Ld.dl; rw [if_pos (by omega)])
      · o_readsAll
        exact g_itemP e4 h4 hD' (by rw [sizeLine_eq]; omega) (by unfold Ld.dl; rw [if_neg (by omega)])
    · rw [Int.sub_zero, Int.toNat_natCast] at h4
      o_readsAll
      refine c_grown (((hf.same e1).same e2).same e4) h4 hn ok hL hL6 fun r H5 hr5 e5 h5 => ?_
      refine g_item (e5 _ _ (e4 _ _ e)) l (by rw [sizeLine_eq]; omega) ⟨ps ++ [r], by rw [List.map_append]; rfl, by rw [List.length_append, hpl]; rfl, Eg.Same.put ((e2.trans e4).trans e5) hD, RowsAt.snoc ((hR.same e4).same e5) (by rw [hpl]; exact h5) (e5 _ _ (e4 _ _ e)), fun q hq => by
        rcases List.mem_append.mp hq with h | h
        · exact hfr q h
        · rw [List.mem_singleton.mp h]; exact (e2.trans e4).free hr5⟩
  · obtain ⟨ps, rfl, hpl, e2, hR, hfr⟩ := p
    exact k D ps H' (e1.free hD) (e1.trans e2) e hpl hR fun q hq => e1.free (hfr q hq)
end
end L25

namespace L25
open SX Ld
section
variable {P : Program} {w : World} {K : PySem.W.Frag} {mg : Str → Option Value} {base : Heap} {Z : Ad}
def sp_bound (K : PySem.W.Frag) (w : World) (Z : Ad) : Sp := fun vs H Q _ => ∃ (what : Str) (n lim : Int), vs = [.str what, .int n] ∧ KDct K w Z.a_LIMITS what (.int lim) ∧ n ≤ lim ∧ ∀ H', Same H H' → Q .non H'
theorem d_bound (T : Txt K w mg Z) : Dfn P w K mg base 1 "bound" ["what", "number"] (sp_bound K w Z) := by
  obtain ⟨f, fd, F, hm, hb⟩ := T.f_bound
  refine ⟨f, fd, F.ok sc_bound (fun vs H Q E h => by first | (obtain ⟨rfl, _⟩ := h; rfl) | (obtain ⟨_, rfl, _⟩ := h; rfl) | (obtain ⟨_, _, rfl, _⟩ := h; rfl) | (obtain ⟨_, _, _, rfl, _⟩ := h; rfl) | (obtain ⟨_, _, _, _, rfl, _⟩ := h; rfl) | (obtain ⟨_, _, _, _, _, rfl, _⟩ := h; rfl) | (obtain ⟨_, _, _, _, _, _, rfl, _⟩ := h; rfl) | (obtain ⟨_, _, _, _, _, _, _, rfl, _⟩ := h; rfl) | (obtain ⟨_, _, _, _, _, _, _, _, rfl, _⟩ := h; rfl) | (obtain ⟨_, _, _, _, _, _, _, _, _, rfl, _⟩ := h; rfl) | (obtain ⟨_, _, _, _, _, _, _, _, _, _, rfl, _⟩ := h; rfl) | (obtain ⟨_, _, _, _, _, _, _, _, _, _, _, rfl, _⟩ := h; rfl) | (obtain ⟨_, _, _, _, _, _, _, _, _, _, _, _, rfl, _⟩ := h; rfl) | (obtain ⟨_, _, _, _, _, _, _, _, _, _, _, _, _, rfl, _⟩ := h; rfl) | (obtain ⟨_, _, _, _, _, _, _, _, _, _, _, _, _, _, rfl, _⟩ := h; rfl) | (obtain ⟨_, _, _, _, _, _, _, _, _, _, _, _, _, _, _, rfl, _⟩ := h; rfl) | (obtain ⟨_, _, _, _, _, _, _, _, _, _, _, _, _, _, _, _, rfl, _⟩ := h; rfl)) (fun cdv A outer s H vs Q E hr h => ?_), hm, F.kp, hb⟩
  obtain ⟨what, n, lim, rfl, hd, hl, k⟩ := h
  refine ⟨_, (pss_one (ps_if (pt_cmpR op_gt (pv 1) (pe_ix ix_kdict (pe_gr T.c_LIMITS) (pv 0) (fun _ _ => rfl)) (nomark _)) (pss_one ps_never) pss_nil)), ?_⟩
  try dsimp only [cxOf, Cx.nox, Cx.wish]
  show (_ : TS) _ [some _, some _] _
  o_readsAll
  refine g_kd hd ?_
  o_readsAll
  refine br (fun h => absurd h (by omega)) (fun _ => ?_)
  o_readsAll
  exact k _ (Same.refl _)
theorem c_bound {what : Str} {n lim : Int} {H : Hp} {Q : VK} {E : XK} (hd : KDct K w Z.a_LIMITS what (.int lim)) (hl : n ≤ lim) (k : ∀ H', Same H H' → Q .non H') : sp_bound K w Z [.str what, .int n] H Q E := ⟨what, n, lim, rfl, hd, hl, k⟩
/-- a demand -/
def DemAt (C : Addr) (H : Hp) (d : Addr) (c dr hu st : Int) : Prop := ∃ dx, H d = some (.ins C dx [("crowns_number", .int c), ("drops_number", .int dr), ("hung_number", .int hu), ("struck_number", .int st)])
theorem DemAt.same {C : Addr} {H H' : Hp} {d : Addr} {c dr hu st : Int} (h : DemAt C H d c dr hu st) (e : Same H H') : DemAt C H' d c dr hu st := by
  obtain ⟨dx, h⟩ := h
  exact ⟨dx, e _ _ h⟩
def sp_deinit (C : Addr) : Sp := fun vs H Q _ => ∃ (x dx : Addr) (c dr hu st : Int), vs = [.ref x, .int c, .int dr, .int hu, .int st] ∧ H x = some (.ins C dx []) ∧ 1 ≤ c ∧ 0 ≤ dr ∧ 0 ≤ hu ∧ 0 ≤ st ∧ ∀ H', Off x H H' → DemAt C H' x c dr hu st → Q .non H'
def sp_dcr (C : Addr) (f : Int → Int → Int → Int → Int) : Sp := fun vs H Q _ => ∃ (d : Addr) (c dr hu st : Int), vs = [.ref d] ∧ DemAt C H d c dr hu st ∧ Q (.int (f c dr hu st)) H
end
end L25

namespace L25
open SX Ld
section
variable {P : Program} {w : World} {K : PySem.W.Frag} {mg : Str → Option Value} {base : Heap} {Z : Ad}
def LadAt (C : Addr) (H : Hp) (l : Addr) (L : Int) (n : Nat) (fs : Nat → Int) (ret : Bool) : Prop := ∃ (dx fl lt hl wl : Addr) (ps : List Addr), H l = some (.ins C dx [("lanes_number", .int L), ("falls_list", .ref fl), ("returns_kept", .bl ret), ("loads_table", .ref lt), ("heads_list", .ref hl), ("worths_list", .ref wl)]) ∧ IL H fl n fs ∧ H lt = some (.lst (ps.map V.ref)) ∧ ps.length = n ∧ RowsAt H ps n L fs ∧ IL H hl (n + 1) (hd L fs) ∧ IL H wl (n + 1) (wd L fs)
theorem LadAt.same {C : Addr} {H H' : Hp} {l : Addr} {L : Int} {n : Nat} {fs : Nat → Int} {ret : Bool} (h : LadAt C H l L n fs ret) (e : Same H H') : LadAt C H' l L n fs ret := by
  obtain ⟨dx, fl, lt, hl, wl, ps, a, b, c, d, f, g, i⟩ := h
  exact ⟨dx, fl, lt, hl, wl, ps, e _ _ a, b.same e, e _ _ c, d, f.same e, g.same e, i.same e⟩
/-- a ladder whose parts are all new -/
def LadFr (C : Addr) (H0 H : Hp) (l : Addr) (L : Int) (n : Nat) (fs : Nat → Int) (ret : Bool) : Prop := ∃ (dx fl lt hl wl : Addr) (ps : List Addr), (H l = some (.ins C dx [("lanes_number", .int L), ("falls_list", .ref fl), ("returns_kept", .bl ret), ("loads_table", .ref lt), ("heads_list", .ref hl), ("worths_list", .ref wl)]) ∧ IL H fl n fs ∧ H lt = some (.lst (ps.map V.ref)) ∧ ps.length = n ∧ RowsAt H ps n L fs ∧ IL H hl (n + 1) (hd L fs) ∧ IL H wl (n + 1) (wd L fs)) ∧ H0 fl = none ∧ H0 lt = none ∧ H0 hl = none ∧ H0 wl = none ∧ ∀ q ∈ ps, H0 q = none
theorem LadFr.at {C : Addr} {H0 H : Hp} {l : Addr} {L : Int} {n : Nat} {fs : Nat → Int} {ret : Bool} (h : LadFr C H0 H l L n fs ret) : LadAt C H l L n fs ret := by
  obtain ⟨dx, fl, lt, hl, wl, ps, h1, h2⟩ := h
  exact ⟨dx, fl, lt, hl, wl, ps, h1⟩
theorem LadFr.mono {C : Addr} {H1 H0 H : Hp} {l : Addr} {L : Int} {n : Nat} {fs : Nat → Int} {ret : Bool} (h : LadFr C H0 H l L n fs ret) (e : Same H1 H0) : LadFr C H1 H l L n fs ret := by
  obtain ⟨dx, fl, lt, hl, wl, ps, a, f1, f2, f3, f4, f5⟩ := h
  exact ⟨dx, fl, lt, hl, wl, ps, a, e.free f1, e.free f2, e.free f3, e.free f4, fun q hq => e.free (f5 q hq)⟩
theorem LadFr.same {C : Addr} {H0 H H' : Hp} {l : Addr} {L : Int} {n : Nat} {fs : Nat → Int} {ret : Bool} (h : LadFr C H0 H l L n fs ret) (e : Same H H') : LadFr C H0 H' l L n fs ret := by
  obtain ⟨dx, fl, lt, hl, wl, ps, ⟨a, b, c, d, f, g, i⟩, h2⟩ := h
  exact ⟨dx, fl, lt, hl, wl, ps, ⟨e _ _ a, b.same e, e _ _ c, d, f.same e, g.same e, i.same e⟩, h2⟩
theorem LadFr.off {C s : Addr} {H0 H H' : Hp} {l : Addr} {L : Int} {n : Nat} {fs : Nat → Int} {ret : Bool} {u : HO} (h : LadFr C H0 H l L n fs ret) (hs : H0 s = some u) (nl : l ≠ s) (o : Off s H H') : LadFr C H0 H' l L n fs ret := by
  obtain ⟨dx, fl, lt, hl, wl, ps, ⟨a, b, c, d, f, g, i⟩, f1, f2, f3, f4, f5⟩ := h
  have ne : ∀ {x : Addr}, H0 x = none → x ≠ s := fun hx => (ne_of_none hs hx).symm
  exact ⟨dx, fl, lt, hl, wl, ps, ⟨o _ _ nl a, o _ _ (ne f1) b, o _ _ (ne f2) c, d, fun j q hq => o _ _ (ne (f5 q (List.mem_of_getElem? hq))) (f j q hq), o _ _ (ne f3) g, o _ _ (ne f4) i⟩, f1, f2, f3, f4, f5⟩
def sp_wrung (K : PySem.W.Frag) : Sp := fun vs H Q _ => ∃ (L : Int) (fl : Addr) (n : Nat) (fs : Nat → Int), vs = [.int L, .ref fl] ∧ IL H fl n fs ∧ 2 ≤ L ∧ 0 < n ∧ n ≤ 40 ∧ OkF fs ∧ ∀ H', Same H H' → Q .non H'
theorem d_wrong_rung (T : Txt K w mg Z) : Dfn P w K mg base 1 "wrong_rung" ["lanes", "falls"] (sp_wrung K) := by
  obtain ⟨f, fd, F, hm, hb⟩ := T.f_wrong_rung
  refine ⟨f, fd, F.ok sc_wrong_rung (fun vs H Q E h => by first | (obtain ⟨rfl, _⟩ := h; rfl) | (obtain ⟨_, rfl, _⟩ := h; rfl) | (obtain ⟨_, _, rfl, _⟩ := h; rfl) | (obtain ⟨_, _, _, rfl, _⟩ := h; rfl) | (obtain ⟨_, _, _, _, rfl, _⟩ := h; rfl) | (obtain ⟨_, _, _, _, _, rfl, _⟩ := h; rfl) | (obtain ⟨_, _, _, _, _, _, rfl, _⟩ := h; rfl) | (obtain ⟨_, _, _, _, _, _, _, rfl, _⟩ := h; rfl) | (obtain ⟨_, _, _, _, _, _, _, _, rfl, _⟩ := h; rfl) | (obtain ⟨_, _, _, _, _, _, _, _, _, rfl, _⟩ := h; rfl) | (obtain ⟨_, _, _, _, _, _, _, _, _, _, rfl, _⟩ := h; rfl) | (obtain ⟨_, _, _, _, _, _, _, _, _, _, _, rfl, _⟩ := h; rfl) | (obtain ⟨_, _, _, _, _, _, _, _, _, _, _, _, rfl, _⟩ := h; rfl) | (obtain ⟨_, _, _, _, _, _, _, _, _, _, _, _, _, rfl, _⟩ := h; rfl) | (obtain ⟨_, _, _, _, _, _, _, _, _, _, _, _, _, _, rfl, _⟩ := h; rfl) | (obtain ⟨_, _, _, _, _, _, _, _, _, _, _, _, _, _, _, rfl, _⟩ := h; rfl) | (obtain ⟨_, _, _, _, _, _, _, _, _, _, _, _, _, _, _, _, rfl, _⟩ := h; rfl)) (fun cdv A outer s H vs Q E hr h => ?_), hm, F.kp, hb⟩
  obtain ⟨L, fl, n, fs, rfl, hf, hL, h0, hn, ok, k⟩ := h
  have hfe : (rng n fs).isEmpty = false := by
    cases n with
    | zero => omega
    | succ m => rw [rng_succ]; simp
  refine ⟨_, (pss_cons (ps_if (PW.pt (pw_or (pt_cmpR op_lt (pv 0) pe_int (nomark _)) (pw_or1 (pt_not (pt_u (pv 1)))))) (pss_one (ps_ret (pe_un un_neg pe_int))) pss_nil)
      (pss_cons (ps_for PassesOwn.never rfl (pi_enum (by rfl) T.b_enumerate (pa_cons (pv 1) pa_nil)) (pg_tup (by rfl) (pgs_cons (pg_name (i := 2) sc_wrong_rung.nd rfl (.inl rfl)) (pgs_cons (pg_name (i := 3) sc_wrong_rung.nd rfl (.inl rfl)) pgs_nil)))
        (pss_cons (ps_set (i := 4) sc_wrong_rung.nd rfl (.inl rfl) (pe_ifExp (pt_cmpR op_gt (pv 2) pe_int (nomark _)) (pe_op op_sub (pv 2) pe_int) pe_int))
      (pss_one (ps_if (pt_not (pt_chain op_le op_le (pe_gi T.c_OUT) (pv 3) (pv 4))) (pss_one (ps_ret (pv 2))) pss_nil))))
      (pss_one (ps_ret pe_non)))), ?_⟩
  try dsimp only [cxOf, Cx.nox, Cx.wish]
  show (_ : TS) _ [some _, some _, none, none, none] _
  o_readsAll
  refine brF (decide_eq_false (by omega)) ?_
  o_readsAll
  refine g_truL hf.sq ?_
  rw [hfe]
  o_readsAll
  refine brF rfl ?_
  o_readsAll
  refine f_enum (xs := rng n fs) (fun i σ' H' => ∃ a b d, σ' = [some (.int L), some (.ref fl), a, b, d] ∧ Same H H') ⟨_, _, _, rfl, Same.refl _⟩ ?_ ?_ ?_
  · rintro i σ' H2 hi ⟨a, b, d, rfl, e2⟩
    exact (hf.same e2).sq
  · rintro i y σ' H2 T1 H3 hy ⟨a, b, d, rfl, e2⟩ hT e3 h3
    have hi : i < n := by have := (List.getElem?_eq_some_iff.mp hy).1; rw [rng_len] at this; exact this
    rw [rng_at hi] at hy
    cases hy
    have okf := ok i
    o_readsAll
    refine jnE (fun y H' => ∃ t : Int, y = .int t ∧ H' = H3 ∧ fs i ≤ t) ?_ (fun Q' hQ => br (fun h => ?_) (fun h => ?_))
    · rintro y H' ⟨t, rfl, rfl, ht⟩
      o_readsAll
      refine ⟨_, rfl, ?_⟩
      refine brT (decide_eq_true (by omega)) ?_
      o_readsAll
      refine brF (by rw [decide_eq_true ht]; rfl) ?_
      o_readsAll
      exact ⟨_, _, _, rfl, e2.trans e3⟩
    · o_readsAll
      exact hQ _ _ ⟨_, rfl, rfl, by omega⟩
    · o_readsAll
      exact hQ _ _ ⟨_, rfl, rfl, by omega⟩
  · rintro σ' H2 ⟨a, b, d, rfl, e2⟩
    o_readsAll
    exact k _ e2
theorem c_row {c : Int} {v : Int → (Nat → Int) → Nat → Int} {L : Int} {fl : Addr} {n : Nat} {fs : Nat → Int} {H : Hp} {Q : VK} {E : XK} (hf : IL H fl n fs) (hn : n ≤ 40) (ok : OkF fs) (hL : 0 ≤ L) (hL6 : L ≤ 6) (k : ∀ p H', H p = none → Same H H' → IL H' p (n + 1) (v L fs) → Q (.ref p) H') : sp_row c v [.int L, .ref fl] H Q E := ⟨L, fl, n, fs, rfl, hf, hn, ok, hL, hL6, k⟩
theorem c_lrows {L : Int} {fl : Addr} {n : Nat} {fs : Nat → Int} {H : Hp} {Q : VK} {E : XK} (hf : IL H fl n fs) (hn : n ≤ 40) (ok : OkF fs) (hL : 0 ≤ L) (hL6 : L ≤ 6) (k : ∀ p ps H', H p = none → Same H H' → H' p = some (.lst (ps.map V.ref)) → ps.length = n → RowsAt H' ps n L fs → (∀ q ∈ ps, H q = none) → Q (.ref p) H') : sp_lrows [.int L, .ref fl] H Q E := ⟨L, fl, n, fs, rfl, hf, hn, ok, hL, hL6, k⟩
theorem c_wrung {L : Int} {fl : Addr} {n : Nat} {fs : Nat → Int} {H : Hp} {Q : VK} {E : XK} (hf : IL H fl n fs) (hL : 2 ≤ L) (h0 : 0 < n) (hn : n ≤ 40) (ok : OkF fs) (k : ∀ H', Same H H' → Q .non H') : sp_wrung K [.int L, .ref fl] H Q E := ⟨L, fl, n, fs, rfl, hf, hL, h0, hn, ok, k⟩
def sp_linit (C : Addr) : Sp := fun vs H Q _ => ∃ (x dx fl : Addr) (L : Int) (n : Nat) (fs : Nat → Int) (ret : Bool), vs = [.ref x, .int L, .ref fl, .bl ret] ∧ H x = some (.ins C dx []) ∧ IL H fl n fs ∧ x ≠ fl ∧ 2 ≤ L ∧ L ≤ 6 ∧ 0 < n ∧ n ≤ 40 ∧ OkF fs ∧ ∀ H', Off x H H' → LadFr C H H' x L n fs ret → Q .non H'
theorem d_Ladder_init (T : Txt K w mg Z) : Ini P w K mg base 3 "Ladder" Z.a_Ladder ["self", "lanes", "falls", "returns"] (sp_linit Z.a_Ladder) := by
  obtain ⟨f, fd, F, hM, hm, hb⟩ := T.f_Ladder_init
  refine ⟨f, fd, F.ok sc_Ladder_init (fun vs H Q E h => by first | (obtain ⟨rfl, _⟩ := h; rfl) | (obtain ⟨_, rfl, _⟩ := h; rfl) | (obtain ⟨_, _, rfl, _⟩ := h; rfl) | (obtain ⟨_, _, _, rfl, _⟩ := h; rfl) | (obtain ⟨_, _, _, _, rfl, _⟩ := h; rfl) | (obtain ⟨_, _, _, _, _, rfl, _⟩ := h; rfl) | (obtain ⟨_, _, _, _, _, _, rfl, _⟩ := h; rfl) | (obtain ⟨_, _, _, _, _, _, _, rfl, _⟩ := h; rfl) | (obtain ⟨_, _, _, _, _, _, _, _, rfl, _⟩ := h; rfl) | (obtain ⟨_, _, _, _, _, _, _, _, _, rfl, _⟩ := h; rfl) | (obtain ⟨_, _, _, _, _, _, _, _, _, _, rfl, _⟩ := h; rfl) | (obtain ⟨_, _, _, _, _, _, _, _, _, _, _, rfl, _⟩ := h; rfl) | (obtain ⟨_, _, _, _, _, _, _, _, _, _, _, _, rfl, _⟩ := h; rfl) | (obtain ⟨_, _, _, _, _, _, _, _, _, _, _, _, _, rfl, _⟩ := h; rfl) | (obtain ⟨_, _, _, _, _, _, _, _, _, _, _, _, _, _, rfl, _⟩ := h; rfl) | (obtain ⟨_, _, _, _, _, _, _, _, _, _, _, _, _, _, _, rfl, _⟩ := h; rfl) | (obtain ⟨_, _, _, _, _, _, _, _, _, _, _, _, _, _, _, _, rfl, _⟩ := h; rfl)) (fun cdv A outer s H vs Q E hr h => ?_), hM, hm, hb⟩
  obtain ⟨x, dx, fl, L, n, fs, ret, rfl, hx, hf, nf, hL, hL6, h0, hn, ok, k⟩ := h
  have k1 := T.k_LIMITS_lanes
  have k2 := T.k_LIMITS_rungs
  have D_bound := d_bound (P := P) (base := base) T
  have D_wrong_rung := d_wrong_rung (P := P) (base := base) T
  have D_load_rows := d_load_rows (P := P) (base := base) T
  have D_head_row := d_head_row (P := P) (base := base) T
  have D_worth_row := d_worth_row (P := P) (base := base) T
  have l_Ladder := T.l_Ladder
  have n_Ladder_lanes_number := T.n_Ladder_lanes_number
  have n_Ladder_falls_list := T.n_Ladder_falls_list
  have n_Ladder_returns_kept := T.n_Ladder_returns_kept
  have n_Ladder_loads_table := T.n_Ladder_loads_table
  have n_Ladder_heads_list := T.n_Ladder_heads_list
  have n_Ladder_worths_list := T.n_Ladder_worths_list
  refine ⟨_, (pss_cons (ps_expr (pe_dfn D_bound (hr.mono (by decide)) (by rfl) (pa_cons pe_str (pa_cons (pv 1) pa_nil))))
      (pss_cons (ps_expr (pe_dfn D_bound (hr.mono (by decide)) (by rfl) (pa_cons pe_str (pa_cons (pe_callB call_uLen (by rfl) T.b_len bt_len (pa_cons (pv 2) pa_nil)) pa_nil))))
      (pss_cons (ps_set (i := 4) sc_Ladder_init.nd rfl (.inl rfl) (pe_dfn D_wrong_rung (hr.mono (by decide)) (by rfl) (pa_cons (pv 1) (pa_cons (pv 2) pa_nil))))
      (pss_cons (ps_if (pt_cmpR op_uNotN (pv 4) pe_non (nomark _)) (pss_one ps_never) pss_nil)
      (pss_cons (ps_fld (pv 0) (pv 1) rfl)
      (pss_cons (ps_fld (pv 0) (pe_callTy call_uList (by rfl) T.b_list bt_list (pa_cons (pv 2) pa_nil)) rfl)
      (pss_cons (ps_fld (pv 0) (pv 3) rfl)
      (pss_cons (ps_fld (pv 0) (pe_dfn D_load_rows (hr.mono (by decide)) (by rfl) (pa_cons (pv 1) (pa_cons (pv 2) pa_nil))) rfl)
      (pss_cons (ps_fld (pv 0) (pe_dfn D_head_row (hr.mono (by decide)) (by rfl) (pa_cons (pv 1) (pa_cons (pv 2) pa_nil))) rfl)
      (pss_one (ps_fld (pv 0) (pe_dfn D_worth_row (hr.mono (by decide)) (by rfl) (pa_cons (pv 1) (pa_cons (pv 2) pa_nil))) rfl))))))))))), ?_⟩
  try dsimp only [cxOf, Cx.nox, Cx.wish]
  show (_ : TS) _ [some _, some _, some _, some _, none] _
  o_readsAll
  refine c_bound k1 hL6 fun H1 e1 => ?_
  have hf1 := hf.same e1
  o_readsAll
  refine c_bound k2 (by rw [rng_len]; omega) fun H2 e2 => ?_
  have hf2 := hf1.same e2
  o_readsAll
  refine c_wrung hf2 hL h0 hn ok fun H3 e3 => ?_
  have hf3 : H3 fl = some (.lst (rng n fs)) := hf2.same e3
  have hx3 := e3 _ _ (e2 _ _ (e1 _ _ hx))
  o_readsAll
  rename_i fl2 H4 ff e4 h4 N1 hN1 N2 hN2
  have hf4 : H4 fl = some (.lst (rng n fs)) := by o_shape
  have nf2 : x ≠ fl2 := ne_of_none upd_same ff
  refine c_lrows (by unfold IL; o_shape) hn ok (by omega) hL6 fun lt ps H5 flt e5 h5 hpl hR hfr => ?_
  have nlt : x ≠ lt := (ne_of_none upd_same flt)
  have nps : ∀ q ∈ ps, q ≠ x := fun q hq => by
    obtain ⟨a, ha, rfl⟩ := List.mem_iff_getElem.mp hq
    exact ne_of (hR a _ (List.getElem?_eq_getElem ha)) (e5 _ _ upd_same) (by intro z; cases z)
  have hf5 : H5 fl = some (.lst (rng n fs)) := by o_shape
  have hx5 := e5 _ _ upd_same
  o_readsAll
  refine c_row (by unfold IL; o_shape) hn ok (by omega) hL6 fun hp H6 fhp e6 h6 => ?_
  have nhp : x ≠ hp := ne_of_none upd_same fhp
  have hf6 : H6 fl = some (.lst (rng n fs)) := by o_shape
  have hx6 := e6 _ _ upd_same
  o_readsAll
  refine c_row (by unfold IL; o_shape) hn ok (by omega) hL6 fun wp H7 fwp e7 h7 => ?_
  have nwp : x ≠ wp := ne_of_none upd_same fwp
  have hx7 := e7 _ _ upd_same
  o_readsAll
  have o3 : Off x H H3 := off_of ((e1.trans e2).trans e3)
  refine k _ ((((((((((((o3.upd).same e4).upd).upd).same e5).upd).same e6).upd).same e7).upd))) ⟨dx, fl2, lt, hp, wp, ps, ⟨upd_same, ?_, ?_, hpl, ?_, ?_, ?_⟩, ?_, ?_, ?_, ?_, ?_⟩
  · unfold IL
    o_shape
  · o_shape
  · intro a q hq
    have nq := nps q (List.mem_of_getElem? hq)
    have h := hR a q hq
    unfold IL at h ⊢
    o_shape
  · unfold IL at h6 ⊢
    o_shape
  · unfold IL at h7 ⊢
    o_shape
  · exact ((e1.trans e2).trans e3).free (upd_none ff)
  · exact ((e1.trans e2).trans e3).free (upd_none (e4.free (upd_none (upd_none flt))))
  · exact ((e1.trans e2).trans e3).free (upd_none (e4.free (upd_none (upd_none (e5.free (upd_none fhp))))))
  · exact ((e1.trans e2).trans e3).free (upd_none (e4.free (upd_none (upd_none (e5.free (upd_none (e6.free (upd_none fwp))))))))
  · exact fun q hq => ((e1.trans e2).trans e3).free (upd_none (e4.free (upd_none (upd_none (hfr q hq)))))
theorem c_lmake {C fl : Addr} {L : Int} {n : Nat} {fs : Nat → Int} {ret : Bool} {H : Hp} {Q : VK} {E : XK} (hf : IL H fl n fs) (hL : 2 ≤ L) (hL6 : L ≤ 6) (h0 : 0 < n) (hn : n ≤ 40) (ok : OkF fs) (k : ∀ l H', H l = none → Same H H' → LadFr C H H' l L n fs ret → Q (.ref l) H') : gMake C (sp_linit C) E [.int L, .ref fl, .bl ret] H Q := by
  intro x dx hx hdx hne
  have n1 : fl ≠ x := ne_of_none hf hx
  have n2 : fl ≠ dx := ne_of_none hf hdx
  refine ⟨x, dx, fl, L, n, fs, ret, rfl, upd_same, by unfold IL; rw [upd_ne n1, upd_ne n2]; exact hf, n1.symm, hL, hL6, h0, hn, ok, fun H' o hl => ⟨rfl, k x H' hx (fun b u q => o b u (ne_of_none q hx) ?_) ?_⟩⟩
  · rw [upd_ne (ne_of_none q hx), upd_ne (ne_of_none q hdx)]
    exact q
  · obtain ⟨dx2, fl2, lt, hh, wl, ps, a, f1, f2, f3, f4, f5⟩ := hl
    exact ⟨dx2, fl2, lt, hh, wl, ps, a, upd_none (upd_none f1), upd_none (upd_none f2), upd_none (upd_none f3), upd_none (upd_none f4), fun q hq => upd_none (upd_none (f5 q hq))⟩
def sp_lnum (C : Addr) (f : Int → Nat → Bool → V) : Sp := fun vs H Q _ => ∃ (l : Addr) (L : Int) (n : Nat) (fs : Nat → Int) (ret : Bool), vs = [.ref l] ∧ LadAt C H l L n fs ret ∧ Q (f L n ret) H
theorem d_Ladder_lanes (T : Txt K w mg Z) : Mth P w K mg base 1 Z.a_Ladder "lanes" ["self"] (sp_lnum Z.a_Ladder fun L _ _ => .int L) := by
  obtain ⟨f, fd, F, hm, hb⟩ := T.f_Ladder_lanes
  refine ⟨⟨f, fd, F.ok sc_Ladder_lanes (fun vs H Q E h => by first | (obtain ⟨rfl, _⟩ := h; rfl) | (obtain ⟨_, rfl, _⟩ := h; rfl) | (obtain ⟨_, _, rfl, _⟩ := h; rfl) | (obtain ⟨_, _, _, rfl, _⟩ := h; rfl) | (obtain ⟨_, _, _, _, rfl, _⟩ := h; rfl) | (obtain ⟨_, _, _, _, _, rfl, _⟩ := h; rfl) | (obtain ⟨_, _, _, _, _, _, rfl, _⟩ := h; rfl) | (obtain ⟨_, _, _, _, _, _, _, rfl, _⟩ := h; rfl) | (obtain ⟨_, _, _, _, _, _, _, _, rfl, _⟩ := h; rfl) | (obtain ⟨_, _, _, _, _, _, _, _, _, rfl, _⟩ := h; rfl) | (obtain ⟨_, _, _, _, _, _, _, _, _, _, rfl, _⟩ := h; rfl) | (obtain ⟨_, _, _, _, _, _, _, _, _, _, _, rfl, _⟩ := h; rfl) | (obtain ⟨_, _, _, _, _, _, _, _, _, _, _, _, rfl, _⟩ := h; rfl) | (obtain ⟨_, _, _, _, _, _, _, _, _, _, _, _, _, rfl, _⟩ := h; rfl) | (obtain ⟨_, _, _, _, _, _, _, _, _, _, _, _, _, _, rfl, _⟩ := h; rfl) | (obtain ⟨_, _, _, _, _, _, _, _, _, _, _, _, _, _, _, rfl, _⟩ := h; rfl) | (obtain ⟨_, _, _, _, _, _, _, _, _, _, _, _, _, _, _, _, rfl, _⟩ := h; rfl)) (fun cdv A outer s H vs Q E hr h => ?_), hm, hb⟩, T.l_Ladder⟩
  obtain ⟨l, L, n, fs, ret, rfl, ⟨dx, fl, lt, hl, wl, ps, h1, h2, h3, h4, h5, h6, h7⟩, k⟩ := h
  have l_Ladder := T.l_Ladder
  have n_Ladder_lanes_number := T.n_Ladder_lanes_number
  refine ⟨_, (pss_one (ps_ret (pe_fld (pv 0) rfl))), ?_⟩
  try dsimp only [cxOf, Cx.nox, Cx.wish]
  show (_ : TS) _ [some _] _
  o_readsAll
theorem d_Ladder_rungs (T : Txt K w mg Z) : Mth P w K mg base 1 Z.a_Ladder "rungs" ["self"] (sp_lnum Z.a_Ladder fun _ n _ => .int (n : Int)) := by
  obtain ⟨f, fd, F, hm, hb⟩ := T.f_Ladder_rungs
  refine ⟨⟨f, fd, F.ok sc_Ladder_rungs (fun vs H Q E h => by first | (obtain ⟨rfl, _⟩ := h; rfl) | (obtain ⟨_, rfl, _⟩ := h; rfl) | (obtain ⟨_, _, rfl, _⟩ := h; rfl) | (obtain ⟨_, _, _, rfl, _⟩ := h; rfl) | (obtain ⟨_, _, _, _, rfl, _⟩ := h; rfl) | (obtain ⟨_, _, _, _, _, rfl, _⟩ := h; rfl) | (obtain ⟨_, _, _, _, _, _, rfl, _⟩ := h; rfl) | (obtain ⟨_, _, _, _, _, _, _, rfl, _⟩ := h; rfl) | (obtain ⟨_, _, _, _, _, _, _, _, rfl, _⟩ := h; rfl) | (obtain ⟨_, _, _, _, _, _, _, _, _, rfl, _⟩ := h; rfl) | (obtain ⟨_, _, _, _, _, _, _, _, _, _, rfl, _⟩ := h; rfl) | (obtain ⟨_, _, _, _, _, _, _, _, _, _, _, rfl, _⟩ := h; rfl) | (obtain ⟨_, _, _, _, _, _, _, _, _, _, _, _, rfl, _⟩ := h; rfl) | (obtain ⟨_, _, _, _, _, _, _, _, _, _, _, _, _, rfl, _⟩ := h; rfl) | (obtain ⟨_, _, _, _, _, _, _, _, _, _, _, _, _, _, rfl, _⟩ := h; rfl) | (obtain ⟨_, _, _, _, _, _, _, _, _, _, _, _, _, _, _, rfl, _⟩ := h; rfl) | (obtain ⟨_, _, _, _, _, _, _, _, _, _, _, _, _, _, _, _, rfl, _⟩ := h; rfl)) (fun cdv A outer s H vs Q E hr h => ?_), hm, hb⟩, T.l_Ladder⟩
  obtain ⟨l, L, n, fs, ret, rfl, ⟨dx, fl, lt, hl, wl, ps, h1, h2, h3, h4, h5, h6, h7⟩, k⟩ := h
  unfold IL at h2
  have l_Ladder := T.l_Ladder
  have n_Ladder_falls_list := T.n_Ladder_falls_list
  refine ⟨_, (pss_one (ps_ret (pe_callB call_uLen (by rfl) T.b_len bt_len (pa_cons (pe_fld (pv 0) rfl) pa_nil)))), ?_⟩
  try dsimp only [cxOf, Cx.nox, Cx.wish]
  show (_ : TS) _ [some _] _
  o_readsAll
  rw [rng_len]
  exact k
theorem d_Ladder_returns (T : Txt K w mg Z) : Mth P w K mg base 1 Z.a_Ladder "returns" ["self"] (sp_lnum Z.a_Ladder fun _ _ ret => .bl ret) := by
  obtain ⟨f, fd, F, hm, hb⟩ := T.f_Ladder_returns
  refine ⟨⟨f, fd, F.ok sc_Ladder_returns (fun vs H Q E h => by first | (obtain ⟨rfl, _⟩ := h; rfl) | (obtain ⟨_, rfl, _⟩ := h; rfl) | (obtain ⟨_, _, rfl, _⟩ := h; rfl) | (obtain ⟨_, _, _, rfl, _⟩ := h; rfl) | (obtain ⟨_, _, _, _, rfl, _⟩ := h; rfl) | (obtain ⟨_, _, _, _, _, rfl, _⟩ := h; rfl) | (obtain ⟨_, _, _, _, _, _, rfl, _⟩ := h; rfl) | (obtain ⟨_, _, _, _, _, _, _, rfl, _⟩ := h; rfl) | (obtain ⟨_, _, _, _, _, _, _, _, rfl, _⟩ := h; rfl) | (obtain ⟨_, _, _, _, _, _, _, _, _, rfl, _⟩ := h; rfl) | (obtain ⟨_, _, _, _, _, _, _, _, _, _, rfl, _⟩ := h; rfl) | (obtain ⟨_, _, _, _, _, _, _, _, _, _, _, rfl, _⟩ := h; rfl) | (obtain ⟨_, _, _, _, _, _, _, _, _, _, _, _, rfl, _⟩ := h; rfl) | (obtain ⟨_, _, _, _, _, _, _, _, _, _, _, _, _, rfl, _⟩ := h; rfl) | (obtain ⟨_, _, _, _, _, _, _, _, _, _, _, _, _, _, rfl, _⟩ := h; rfl) | (obtain ⟨_, _, _, _, _, _, _, _, _, _, _, _, _, _, _, rfl, _⟩ := h; rfl) | (obtain ⟨_, _, _, _, _, _, _, _, _, _, _, _, _, _, _, _, rfl, _⟩ := h; rfl)) (fun cdv A outer s H vs Q E hr h => ?_), hm, hb⟩, T.l_Ladder⟩
  obtain ⟨l, L, n, fs, ret, rfl, ⟨dx, fl, lt, hl, wl, ps, h1, h2, h3, h4, h5, h6, h7⟩, k⟩ := h
  have l_Ladder := T.l_Ladder
  have n_Ladder_returns_kept := T.n_Ladder_returns_kept
  refine ⟨_, (pss_one (ps_ret (pe_fld (pv 0) rfl))), ?_⟩
  try dsimp only [cxOf, Cx.nox, Cx.wish]
  show (_ : TS) _ [some _] _
  o_readsAll
/-- told weights are new lists -/
structure WFr (H : Hp) (lp hp wp : Addr) (ps : List Addr) : Prop where
  l : H lp = none
  h : H hp = none
  w : H wp = none
  p : ∀ q ∈ ps, H q = none ∧ q ≠ lp ∧ q ≠ hp ∧ q ≠ wp
  lh : lp ≠ hp
  lw : lp ≠ wp
  hw : hp ≠ wp
def sp_weights (C : Addr) : Sp := fun vs H Q _ => ∃ (l : Addr) (L : Int) (n : Nat) (fs : Nat → Int) (ret : Bool), vs = [.ref l] ∧ LadAt C H l L n fs ret ∧ n ≤ 40 ∧ ∀ H' p lp hp wp ps, Same H H' → H' p = some (.tup [.ref lp, .ref hp, .ref wp]) → H' lp = some (.lst (ps.map V.ref)) → ps.length = n → RowsAt H' ps n L fs → IL H' hp (n + 1) (hd L fs) → IL H' wp (n + 1) (wd L fs) → WFr H lp hp wp ps → Q (.ref p) H'
theorem d_Ladder_weights (T : Txt K w mg Z) : Mth P w K mg base 1 Z.a_Ladder "weights" ["self"] (sp_weights Z.a_Ladder) := by
  obtain ⟨f, fd, F, hm, hb⟩ := T.f_Ladder_weights
  refine ⟨⟨f, fd, F.ok sc_Ladder_weights (fun vs H Q E h => by first | (obtain ⟨rfl, _⟩ := h; rfl) | (obtain ⟨_, rfl, _⟩ := h; rfl) | (obtain ⟨_, _, rfl, _⟩ := h; rfl) | (obtain ⟨_, _, _, rfl, _⟩ := h; rfl) | (obtain ⟨_, _, _, _, rfl, _⟩ := h; rfl) | (obtain ⟨_, _, _, _, _, rfl, _⟩ := h; rfl) | (obtain ⟨_, _, _, _, _, _, rfl, _⟩ := h; rfl) | (obtain ⟨_, _, _, _, _, _, _, rfl, _⟩ := h; rfl) | (obtain ⟨_, _, _, _, _, _, _, _, rfl, _⟩ := h; rfl) | (obtain ⟨_, _, _, _, _, _, _, _, _, rfl, _⟩ := h; rfl) | (obtain ⟨_, _, _, _, _, _, _, _, _, _, rfl, _⟩ := h; rfl) | (obtain ⟨_, _, _, _, _, _, _, _, _, _, _, rfl, _⟩ := h; rfl) | (obtain ⟨_, _, _, _, _, _, _, _, _, _, _, _, rfl, _⟩ := h; rfl) | (obtain ⟨_, _, _, _, _, _, _, _, _, _, _, _, _, rfl, _⟩ := h; rfl) | (obtain ⟨_, _, _, _, _, _, _, _, _, _, _, _, _, _, rfl, _⟩ := h; rfl) | (obtain ⟨_, _, _, _, _, _, _, _, _, _, _, _, _, _, _, rfl, _⟩ := h; rfl) | (obtain ⟨_, _, _, _, _, _, _, _, _, _, _, _, _, _, _, _, rfl, _⟩ := h; rfl)) (fun cdv A outer s H vs Q E hr h => ?_), hm, hb⟩, T.l_Ladder⟩
  obtain ⟨l, L, n, fs, ret, rfl, ⟨dx, fl, lt, hl, wl, ps, h1, h2, h3, h4, h5, h6, h7⟩, hn, k⟩ := h
  unfold IL at h6 h7
  have l_Ladder := T.l_Ladder
  have n_Ladder_loads_table := T.n_Ladder_loads_table
  have n_Ladder_heads_list := T.n_Ladder_heads_list
  have n_Ladder_worths_list := T.n_Ladder_worths_list
  refine ⟨_, (pss_one (ps_ret (pe_tup (pa_cons (pe_lc (own := [("row", 1)]) (by rfl) sc_Ladder_weights.nd (pi_list (pe_fld (pv 0) rfl)) (blkOk_by (N := n_Ladder_weights) (sc := defScope st_Ladder_weights) (by decide +kernel)) (fun _ _ _ _ _ => (pg_name (i := 1) sc_Ladder_weights.nd rfl (.inl rfl))) (fun _ _ _ _ _ => pts_nil) (fun _ _ _ _ _ => (pe_callTy (call_uListK (K := K) rfl) (by rfl) T.b_list bt_list (pa_cons (pv 1) pa_nil)))) (pa_cons (pe_callTy call_uList (by rfl) T.b_list bt_list (pa_cons (pe_fld (pv 0) rfl) pa_nil)) (pa_cons (pe_callTy call_uList (by rfl) T.b_list bt_list (pa_cons (pe_fld (pv 0) rfl) pa_nil)) pa_nil)))))), ?_⟩
  try dsimp only [cxOf, Cx.nox, Cx.wish]
  show (_ : TS) _ [some _, none] _
  o_readsAll
  refine l_it (walk_list (xs := ps.map V.ref)) (fun D i acc H' => ∃ qs : List Addr, acc = qs.map V.ref ∧ qs.length = i ∧ Same H H' ∧ RowsAt H' qs n L fs ∧ ∀ q ∈ qs, H q = none ∧ q ≠ D) (fun D hD => ⟨[], rfl, rfl, Eg.Same.put (Same.refl _) hD, (fun _ _ h => nomatch h), fun _ h => nomatch h⟩) (fun D i acc H' hD _ _ p => ?_) (fun D i x acc H2 H3 hD hi e l p y => ?_) (fun D acc H' hD e l p => ?_)
  · obtain ⟨qs, rfl, hql, e2, hR, hF⟩ := p
    exact .of (e2 _ _ h3)
  · obtain ⟨qs, rfl, hql, e2, hR, hF⟩ := p
    obtain ⟨y1, y2⟩ := y
    subst y1
    rw [List.length_map] at hi
    rw [List.getElem?_map, List.getElem?_eq_getElem hi] at y2
    cases y2
    have hrow := (h5 i _ (List.getElem?_eq_getElem hi)).same e2
    unfold IL at hrow
    refine ⟨rfl, ?_⟩
    o_readsAll
    rename_i r H5 hr5 e5 h5'
    exact g_item (e5 _ _ e) l (by rw [sizeLine_eq]; omega) ⟨qs ++ [r], by rw [List.map_append]; rfl, by rw [List.length_append, hql]; rfl, Eg.Same.put (e2.trans e5) hD, RowsAt.snoc (hR.same e5) (by rw [hql]; exact h5') (e5 _ _ e), fun q hq => by
      rcases List.mem_append.mp hq with z | z
      · exact hF q z
      · rw [List.mem_singleton.mp z]; exact ⟨e2.free hr5, (ne_of_none e hr5).symm⟩⟩
  · obtain ⟨qs, rfl, hql, e2, hR, hF⟩ := p
    have k6 := e2 _ _ h6
    have k7 := e2 _ _ h7
    have k1 := e2 _ _ h1
    rw [List.length_map] at hql
    o_readsAll
    rename_i hp H3 fhp e3 hh3 wp H4 fwp e4 hh4 p H5 fp e5 hh5
    refine k H5 p D hp wp qs ((((e2.trans e3).trans e4).trans e5)) hh5 (e5 _ _ (e4 _ _ (e3 _ _ e))) (by omega) (((hR.same e3).same e4).same e5) ?_ ?_ ⟨hD, e2.free fhp, e2.free (e3.free fwp), fun q hq => ?_, ne_of_none e fhp, ne_of_none (e3 _ _ e) fwp, ne_of_none hh3 fwp⟩
    · exact e5 _ _ (e4 _ _ hh3)
    · exact e5 _ _ hh4
    · obtain ⟨i, hi, rfl⟩ := List.mem_iff_getElem.mp hq
      have hr := hR i _ (List.getElem?_eq_getElem hi)
      exact ⟨(hF _ hq).1, (hF _ hq).2, ne_of_none hr fhp, ne_of_none (e3 _ _ hr) fwp⟩
end
end L25

namespace L25
open SX Ld
section
variable {P : Program} {w : World} {K : PySem.W.Frag} {mg : Str → Option Value} {base : Heap} {Z : Ad}
def sp_wcount : Sp := fun vs H Q _ => ∃ (c : Addr) (n : Nat) (cs : Nat → Int), vs = [.ref c, .int (n : Int)] ∧ IL H c n cs ∧ n ≤ 40 ∧ (∀ i, i < n → 0 ≤ cs i) ∧ ∀ H', Same H H' → Q .non H'
theorem d_wrong_count (T : Txt K w mg Z) : Dfn P w K mg base 1 "wrong_count" ["counts", "rungs"] (sp_wcount) := by
  obtain ⟨f, fd, F, hm, hb⟩ := T.f_wrong_count
  refine ⟨f, fd, F.ok sc_wrong_count (fun vs H Q E h => by first | (obtain ⟨rfl, _⟩ := h; rfl) | (obtain ⟨_, rfl, _⟩ := h; rfl) | (obtain ⟨_, _, rfl, _⟩ := h; rfl) | (obtain ⟨_, _, _, rfl, _⟩ := h; rfl) | (obtain ⟨_, _, _, _, rfl, _⟩ := h; rfl) | (obtain ⟨_, _, _, _, _, rfl, _⟩ := h; rfl) | (obtain ⟨_, _, _, _, _, _, rfl, _⟩ := h; rfl) | (obtain ⟨_, _, _, _, _, _, _, rfl, _⟩ := h; rfl) | (obtain ⟨_, _, _, _, _, _, _, _, rfl, _⟩ := h; rfl) | (obtain ⟨_, _, _, _, _, _, _, _, _, rfl, _⟩ := h; rfl) | (obtain ⟨_, _, _, _, _, _, _, _, _, _, rfl, _⟩ := h; rfl) | (obtain ⟨_, _, _, _, _, _, _, _, _, _, _, rfl, _⟩ := h; rfl) | (obtain ⟨_, _, _, _, _, _, _, _, _, _, _, _, rfl, _⟩ := h; rfl) | (obtain ⟨_, _, _, _, _, _, _, _, _, _, _, _, _, rfl, _⟩ := h; rfl) | (obtain ⟨_, _, _, _, _, _, _, _, _, _, _, _, _, _, rfl, _⟩ := h; rfl) | (obtain ⟨_, _, _, _, _, _, _, _, _, _, _, _, _, _, _, rfl, _⟩ := h; rfl) | (obtain ⟨_, _, _, _, _, _, _, _, _, _, _, _, _, _, _, _, rfl, _⟩ := h; rfl)) (fun cdv A outer s H vs Q E hr h => ?_), hm, F.kp, hb⟩
  obtain ⟨c, n, cs, rfl, hc, hn, h0, k⟩ := h
  unfold IL at hc
  refine ⟨_, (pss_cons (ps_if (pt_cmpR (op_uNe hr.units) (pe_callB call_uLen (by rfl) T.b_len bt_len (pa_cons (pv 0) pa_nil)) (pv 1) (nomark _)) (pss_one (ps_ret (pe_un un_neg pe_int))) pss_nil)
      (pss_cons (ps_for PassesOwn.never rfl (pi_enum (by rfl) T.b_enumerate (pa_cons (pv 0) pa_nil)) (pg_tup (by rfl) (pgs_cons (pg_name (i := 2) sc_wrong_count.nd rfl (.inl rfl)) (pgs_cons (pg_name (i := 3) sc_wrong_count.nd rfl (.inl rfl)) pgs_nil)))
        (pss_one (ps_if (pt_cmpR op_lt (pv 3) pe_int (nomark _)) (pss_one (ps_ret (pv 2))) pss_nil)))
      (pss_one (ps_ret pe_non)))), ?_⟩
  try dsimp only [cxOf, Cx.nox, Cx.wish]
  show (_ : TS) _ [some _, some _, none, none] _
  o_readsAll
  rw [rng_len]
  refine brn (fun h => absurd rfl h) (fun _ => ?_)
  o_readsAll
  refine f_enum (xs := rng n cs) (fun i σ' H' => ∃ a b, σ' = [some (.ref c), some (.int (n : Int)), a, b] ∧ Same H H') ⟨_, _, rfl, Same.refl _⟩ ?_ ?_ ?_
  · rintro i σ' H2 hi ⟨a, b, rfl, e2⟩
    exact .of (e2 _ _ hc)
  · rintro i y σ' H2 T1 H3 hy ⟨a, b, rfl, e2⟩ hT e3 h3
    have hi : i < n := by have := (List.getElem?_eq_some_iff.mp hy).1; rw [rng_len] at this; exact this
    rw [rng_at hi] at hy
    cases hy
    have := h0 i hi
    o_readsAll
    refine brF (decide_eq_false (by omega)) ?_
    o_readsAll
    exact ⟨_, _, rfl, e2.trans e3⟩
  · rintro σ' H2 ⟨a, b, rfl, e2⟩
    o_readsAll
    exact k _ e2
theorem c_wcount {c : Addr} {n : Nat} {cs : Nat → Int} {H : Hp} {Q : VK} {E : XK} (hc : IL H c n cs) (hn : n ≤ 40) (h0 : ∀ i, i < n → 0 ≤ cs i) (k : ∀ H', Same H H' → Q .non H') : sp_wcount [.ref c, .int (n : Int)] H Q E := ⟨c, n, cs, rfl, hc, hn, h0, k⟩
theorem c_lnum {C l : Addr} {L : Int} {n : Nat} {fs : Nat → Int} {ret : Bool} {f : Int → Nat → Bool → V} {H : Hp} {Q : VK} {E : XK} (h : LadAt C H l L n fs ret) (k : Q (f L n ret) H) : sp_lnum C f [.ref l] H Q E := ⟨l, L, n, fs, ret, rfl, h, k⟩
theorem c_dcr {C d : Addr} {c dr hu st : Int} {f : Int → Int → Int → Int → Int} {H : Hp} {Q : VK} {E : XK} (h : DemAt C H d c dr hu st) (k : Q (.int (f c dr hu st)) H) : sp_dcr C f [.ref d] H Q E := ⟨d, c, dr, hu, st, rfl, h, k⟩
theorem c_weights {C l : Addr} {L : Int} {n : Nat} {fs : Nat → Int} {ret : Bool} {H : Hp} {Q : VK} {E : XK} (h : LadAt C H l L n fs ret) (hn : n ≤ 40) (k : ∀ H' p lp hp wp ps, Same H H' → H' p = some (.tup [.ref lp, .ref hp, .ref wp]) → H' lp = some (.lst (ps.map V.ref)) → ps.length = n → RowsAt H' ps n L fs → IL H' hp (n + 1) (hd L fs) → IL H' wp (n + 1) (wd L fs) → Q (.ref p) H') : sp_weights C [.ref l] H Q E := ⟨l, L, n, fs, ret, rfl, h, hn, fun H' p lp hp wp ps a b c d e f g _ => k H' p lp hp wp ps a b c d e f g⟩
theorem c_weightsF {C l : Addr} {L : Int} {n : Nat} {fs : Nat → Int} {ret : Bool} {H : Hp} {Q : VK} {E : XK} (h : LadAt C H l L n fs ret) (hn : n ≤ 40) (k : ∀ H' p lp hp wp ps, Same H H' → H' p = some (.tup [.ref lp, .ref hp, .ref wp]) → H' lp = some (.lst (ps.map V.ref)) → ps.length = n → RowsAt H' ps n L fs → IL H' hp (n + 1) (hd L fs) → IL H' wp (n + 1) (wd L fs) → WFr H lp hp wp ps → Q (.ref p) H') : sp_weights C [.ref l] H Q E := ⟨l, L, n, fs, ret, rfl, h, hn, k⟩
def TabAt (C CL : Addr) (H : Hp) (t : Addr) (L : Int) (n : Nat) (fs : Nat → Int) (ret : Bool) (cs : Nat → Int) : Prop := ∃ dx l cl, H t = some (.ins C dx [("ladder_kept", .ref l), ("counts_list", .ref cl)]) ∧ IL H cl n cs ∧ LadAt CL H l L n fs ret
theorem TabAt.same {C CL : Addr} {H H' : Hp} {t : Addr} {L : Int} {n : Nat} {fs : Nat → Int} {ret : Bool} {cs : Nat → Int} (h : TabAt C CL H t L n fs ret cs) (e : Same H H') : TabAt C CL H' t L n fs ret cs := by
  obtain ⟨dx, l, cl, a, b, c⟩ := h
  exact ⟨dx, l, cl, e _ _ a, b.same e, c.same e⟩
def sp_tinit (C CL : Addr) : Sp := fun vs H Q _ => ∃ (x dx l c : Addr) (L : Int) (n : Nat) (fs : Nat → Int) (ret : Bool) (cs : Nat → Int), vs = [.ref x, .ref l, .ref c] ∧ H x = some (.ins C dx []) ∧ LadAt CL H l L n fs ret ∧ IL H c n cs ∧ n ≤ 40 ∧ (∀ i, i < n → 0 ≤ cs i) ∧ x ≠ l ∧ x ≠ c ∧ ∀ H' cl, H cl = none → Off x H H' → H' x = some (.ins C dx [("ladder_kept", .ref l), ("counts_list", .ref cl)]) → IL H' cl n cs → Q .non H'
theorem d_Table_init (T : Txt K w mg Z) : Ini P w K mg base 3 "Table" Z.a_Table ["self", "ladder", "counts"] (sp_tinit Z.a_Table Z.a_Ladder) := by
  obtain ⟨f, fd, F, hM, hm, hb⟩ := T.f_Table_init
  refine ⟨f, fd, F.ok sc_Table_init (fun vs H Q E h => by first | (obtain ⟨rfl, _⟩ := h; rfl) | (obtain ⟨_, rfl, _⟩ := h; rfl) | (obtain ⟨_, _, rfl, _⟩ := h; rfl) | (obtain ⟨_, _, _, rfl, _⟩ := h; rfl) | (obtain ⟨_, _, _, _, rfl, _⟩ := h; rfl) | (obtain ⟨_, _, _, _, _, rfl, _⟩ := h; rfl) | (obtain ⟨_, _, _, _, _, _, rfl, _⟩ := h; rfl) | (obtain ⟨_, _, _, _, _, _, _, rfl, _⟩ := h; rfl) | (obtain ⟨_, _, _, _, _, _, _, _, rfl, _⟩ := h; rfl) | (obtain ⟨_, _, _, _, _, _, _, _, _, rfl, _⟩ := h; rfl) | (obtain ⟨_, _, _, _, _, _, _, _, _, _, rfl, _⟩ := h; rfl) | (obtain ⟨_, _, _, _, _, _, _, _, _, _, _, rfl, _⟩ := h; rfl) | (obtain ⟨_, _, _, _, _, _, _, _, _, _, _, _, rfl, _⟩ := h; rfl) | (obtain ⟨_, _, _, _, _, _, _, _, _, _, _, _, _, rfl, _⟩ := h; rfl) | (obtain ⟨_, _, _, _, _, _, _, _, _, _, _, _, _, _, rfl, _⟩ := h; rfl) | (obtain ⟨_, _, _, _, _, _, _, _, _, _, _, _, _, _, _, rfl, _⟩ := h; rfl) | (obtain ⟨_, _, _, _, _, _, _, _, _, _, _, _, _, _, _, _, rfl, _⟩ := h; rfl)) (fun cdv A outer s H vs Q E hr h => ?_), hM, hm, hb⟩
  obtain ⟨x, dx, l, c, L, n, fs, ret, cs, rfl, hx, hl, hc, hn, h0, nl, nc, k⟩ := h
  have hl' := hl
  obtain ⟨ldx, fl, lt, hh, wl, ps, a1, a2, a3, a4, a5, a6, a7⟩ := hl'
  have D_wrong_count := d_wrong_count (P := P) (base := base) T
  have D_Ladder_rungs := d_Ladder_rungs (P := P) (base := base) T
  have l_Table := T.l_Table
  have n_Table_ladder_kept := T.n_Table_ladder_kept
  have n_Table_counts_list := T.n_Table_counts_list
  refine ⟨_, (pss_cons (ps_set (i := 3) sc_Table_init.nd rfl (.inl rfl) (pe_dfn D_wrong_count (hr.mono (by decide)) (by rfl) (pa_cons (pv 2) (pa_cons (pe_mth0 D_Ladder_rungs (hr.mono (by decide)) (pv 1)) pa_nil))))
      (pss_cons (ps_if (pt_cmpR op_uNotN (pv 3) pe_non (nomark _)) (pss_one ps_never) pss_nil)
      (pss_cons (ps_fld (pv 0) (pv 1) rfl)
      (pss_one (ps_fld (pv 0) (pe_callTy call_uList (by rfl) T.b_list bt_list (pa_cons (pv 2) pa_nil)) rfl))))), ?_⟩
  try dsimp only [cxOf, Cx.nox, Cx.wish]
  show (_ : TS) _ [some _, some _, some _, none] _
  o_readsAll
  refine c_lnum hl ?_
  o_readsAll
  refine c_wcount hc hn h0 fun H1 e1 => ?_
  have hx1 := e1 _ _ hx
  have hc1 : H1 c = some (.lst (rng n cs)) := hc.same e1
  o_readsAll
  rename_i cl H2 fcl e2 h2
  have ncl : x ≠ cl := ne_of_none upd_same fcl
  have fcl0 : H cl = none := e1.free ((by rw [upd_ne ncl.symm] at fcl; exact fcl))
  refine k _ cl fcl0 ((((off_of e1).upd).same e2).upd) upd_same ?_
  unfold IL
  o_shape
theorem c_tmakeF {C CL l c : Addr} {L : Int} {n : Nat} {fs : Nat → Int} {ret : Bool} {cs : Nat → Int} {H : Hp} {Q : VK} {E : XK} (hl : LadAt CL H l L n fs ret) (hc : IL H c n cs) (hn : n ≤ 40) (h0 : ∀ i, i < n → 0 ≤ cs i) (k : ∀ t H', H t = none → Same H H' → TabAt C CL H' t L n fs ret cs → (∃ dx cl, H cl = none ∧ H' t = some (.ins C dx [("ladder_kept", .ref l), ("counts_list", .ref cl)]) ∧ IL H' cl n cs) → Q (.ref t) H') : gMake C (sp_tinit C CL) E [.ref l, .ref c] H Q := by
  intro x dx hx hdx hne
  have e0 : Same H (upd (upd H dx (.own x)) x (.ins C dx [])) := fun b u q => by rw [upd_ne (ne_of_none q hx), upd_ne (ne_of_none q hdx)]; exact q
  have n1 : x ≠ c := (ne_of_none hc hx).symm
  have n2 : x ≠ l := by
    obtain ⟨_, _, _, _, _, _, a, _⟩ := hl
    exact (ne_of_none a hx).symm
  refine ⟨x, dx, l, c, L, n, fs, ret, cs, rfl, upd_same, hl.same e0, hc.same e0, hn, h0, n2, n1, fun H' cl fcl o h1 h2 => ⟨rfl, ?_⟩⟩
  have e1 : Same H H' := fun b u q => o b u (ne_of_none q hx) (e0 b u q)
  exact k x H' hx e1 ⟨dx, l, cl, h1, h2, hl.same e1⟩ ⟨dx, cl, e0.free fcl, h1, h2⟩
theorem c_tmake {C CL l c : Addr} {L : Int} {n : Nat} {fs : Nat → Int} {ret : Bool} {cs : Nat → Int} {H : Hp} {Q : VK} {E : XK} (hl : LadAt CL H l L n fs ret) (hc : IL H c n cs) (hn : n ≤ 40) (h0 : ∀ i, i < n → 0 ≤ cs i) (k : ∀ t H', H t = none → Same H H' → TabAt C CL H' t L n fs ret cs → Q (.ref t) H') : gMake C (sp_tinit C CL) E [.ref l, .ref c] H Q := c_tmakeF hl hc hn h0 fun t H' a b c _ => k t H' a b c
def sp_tlad (C CL : Addr) : Sp := fun vs H Q _ => ∃ (t : Addr) (L : Int) (n : Nat) (fs : Nat → Int) (ret : Bool) (cs : Nat → Int), vs = [.ref t] ∧ TabAt C CL H t L n fs ret cs ∧ ∀ l, LadAt CL H l L n fs ret → Q (.ref l) H
theorem d_Table_ladder (T : Txt K w mg Z) : Mth P w K mg base 1 Z.a_Table "ladder" ["self"] (sp_tlad Z.a_Table Z.a_Ladder) := by
  obtain ⟨f, fd, F, hm, hb⟩ := T.f_Table_ladder
  refine ⟨⟨f, fd, F.ok sc_Table_ladder (fun vs H Q E h => by first | (obtain ⟨rfl, _⟩ := h; rfl) | (obtain ⟨_, rfl, _⟩ := h; rfl) | (obtain ⟨_, _, rfl, _⟩ := h; rfl) | (obtain ⟨_, _, _, rfl, _⟩ := h; rfl) | (obtain ⟨_, _, _, _, rfl, _⟩ := h; rfl) | (obtain ⟨_, _, _, _, _, rfl, _⟩ := h; rfl) | (obtain ⟨_, _, _, _, _, _, rfl, _⟩ := h; rfl) | (obtain ⟨_, _, _, _, _, _, _, rfl, _⟩ := h; rfl) | (obtain ⟨_, _, _, _, _, _, _, _, rfl, _⟩ := h; rfl) | (obtain ⟨_, _, _, _, _, _, _, _, _, rfl, _⟩ := h; rfl) | (obtain ⟨_, _, _, _, _, _, _, _, _, _, rfl, _⟩ := h; rfl) | (obtain ⟨_, _, _, _, _, _, _, _, _, _, _, rfl, _⟩ := h; rfl) | (obtain ⟨_, _, _, _, _, _, _, _, _, _, _, _, rfl, _⟩ := h; rfl) | (obtain ⟨_, _, _, _, _, _, _, _, _, _, _, _, _, rfl, _⟩ := h; rfl) | (obtain ⟨_, _, _, _, _, _, _, _, _, _, _, _, _, _, rfl, _⟩ := h; rfl) | (obtain ⟨_, _, _, _, _, _, _, _, _, _, _, _, _, _, _, rfl, _⟩ := h; rfl) | (obtain ⟨_, _, _, _, _, _, _, _, _, _, _, _, _, _, _, _, rfl, _⟩ := h; rfl)) (fun cdv A outer s H vs Q E hr h => ?_), hm, hb⟩, T.l_Table⟩
  obtain ⟨t, L, n, fs, ret, cs, rfl, ⟨dx, l, cl, h1, h2, h3⟩, k⟩ := h
  have l_Table := T.l_Table
  have n_Table_ladder_kept := T.n_Table_ladder_kept
  refine ⟨_, (pss_one (ps_ret (pe_fld (pv 0) rfl))), ?_⟩
  try dsimp only [cxOf, Cx.nox, Cx.wish]
  show (_ : TS) _ [some _] _
  o_readsAll
  exact k l h3
def sp_tcnt (C CL : Addr) : Sp := fun vs H Q _ => ∃ (t : Addr) (L : Int) (n : Nat) (fs : Nat → Int) (ret : Bool) (cs : Nat → Int), vs = [.ref t] ∧ TabAt C CL H t L n fs ret cs ∧ ∀ p H', H p = none → Same H H' → IL H' p n cs → Q (.ref p) H'
theorem d_Table_counts (T : Txt K w mg Z) : Mth P w K mg base 1 Z.a_Table "counts" ["self"] (sp_tcnt Z.a_Table Z.a_Ladder) := by
  obtain ⟨f, fd, F, hm, hb⟩ := T.f_Table_counts
  refine ⟨⟨f, fd, F.ok sc_Table_counts (fun vs H Q E h => by first | (obtain ⟨rfl, _⟩ := h; rfl) | (obtain ⟨_, rfl, _⟩ := h; rfl) | (obtain ⟨_, _, rfl, _⟩ := h; rfl) | (obtain ⟨_, _, _, rfl, _⟩ := h; rfl) | (obtain ⟨_, _, _, _, rfl, _⟩ := h; rfl) | (obtain ⟨_, _, _, _, _, rfl, _⟩ := h; rfl) | (obtain ⟨_, _, _, _, _, _, rfl, _⟩ := h; rfl) | (obtain ⟨_, _, _, _, _, _, _, rfl, _⟩ := h; rfl) | (obtain ⟨_, _, _, _, _, _, _, _, rfl, _⟩ := h; rfl) | (obtain ⟨_, _, _, _, _, _, _, _, _, rfl, _⟩ := h; rfl) | (obtain ⟨_, _, _, _, _, _, _, _, _, _, rfl, _⟩ := h; rfl) | (obtain ⟨_, _, _, _, _, _, _, _, _, _, _, rfl, _⟩ := h; rfl) | (obtain ⟨_, _, _, _, _, _, _, _, _, _, _, _, rfl, _⟩ := h; rfl) | (obtain ⟨_, _, _, _, _, _, _, _, _, _, _, _, _, rfl, _⟩ := h; rfl) | (obtain ⟨_, _, _, _, _, _, _, _, _, _, _, _, _, _, rfl, _⟩ := h; rfl) | (obtain ⟨_, _, _, _, _, _, _, _, _, _, _, _, _, _, _, rfl, _⟩ := h; rfl) | (obtain ⟨_, _, _, _, _, _, _, _, _, _, _, _, _, _, _, _, rfl, _⟩ := h; rfl)) (fun cdv A outer s H vs Q E hr h => ?_), hm, hb⟩, T.l_Table⟩
  obtain ⟨t, L, n, fs, ret, cs, rfl, ⟨dx, l, cl, h1, h2, h3⟩, k⟩ := h
  unfold IL at h2
  have l_Table := T.l_Table
  have n_Table_counts_list := T.n_Table_counts_list
  refine ⟨_, (pss_one (ps_ret (pe_callTy call_uList (by rfl) T.b_list bt_list (pa_cons (pe_fld (pv 0) rfl) pa_nil)))), ?_⟩
  try dsimp only [cxOf, Cx.nox, Cx.wish]
  show (_ : TS) _ [some _] _
  o_readsAll
  exact k _ _ (by assumption) (by assumption) (by assumption)
theorem c_tlad {C CL t : Addr} {L : Int} {n : Nat} {fs : Nat → Int} {ret : Bool} {cs : Nat → Int} {H : Hp} {Q : VK} {E : XK} (h : TabAt C CL H t L n fs ret cs) (k : ∀ l, LadAt CL H l L n fs ret → Q (.ref l) H) : sp_tlad C CL [.ref t] H Q E := ⟨t, L, n, fs, ret, cs, rfl, h, k⟩
theorem c_tcnt {C CL t : Addr} {L : Int} {n : Nat} {fs : Nat → Int} {ret : Bool} {cs : Nat → Int} {H : Hp} {Q : VK} {E : XK} (h : TabAt C CL H t L n fs ret cs) (k : ∀ p H', H p = none → Same H H' → IL H' p n cs → Q (.ref p) H') : sp_tcnt C CL [.ref t] H Q E := ⟨t, L, n, fs, ret, cs, rfl, h, k⟩
theorem rng_ints (n : Nat) (f : Nat → Int) : rng n f = ((List.range n).map f).map V.int := by unfold rng; rw [List.map_map]; rfl
theorem sum_rng (f : Nat → Int) : ∀ n, ((List.range n).map f).sum = sm f n
  | 0 => rfl
  | n + 1 => by rw [List.range_succ, List.map_append, List.sum_append, sum_rng f n, sm]; simp
theorem g_sumI {p : Addr} {n : Nat} {f : Nat → Int} {H : Hp} {Q : VK} (h : IL H p n f) (k : Q (.int (sm f n)) H) : rSum K [.ref p] H Q := g_sum (ns := (List.range n).map f) (by rw [← rng_ints]; exact h.sq) (by rw [sum_rng]; exact k)
def sp_weighed : Sp := fun vs H Q _ => ∃ (c r : Addr) (n m : Nat) (s v : Nat → Int), vs = [.ref c, .ref r] ∧ IL H c n s ∧ IL H r m v ∧ n ≤ m ∧ m ≤ 41 ∧ (∀ i, i < n → (s i).natAbs < 2 ^ 250 ∧ (v i).natAbs < 2 ^ 250) ∧ ∀ H', Same H H' → Q (.int (sm (fun b => s b * v b) n)) H'
theorem c_weighed {c r : Addr} {n m : Nat} {s v : Nat → Int} {H : Hp} {Q : VK} {E : XK} (hc : IL H c n s) (hr : IL H r m v) (hnm : n ≤ m) (hm : m ≤ 41) (hb : ∀ i, i < n → (s i).natAbs < 2 ^ 250 ∧ (v i).natAbs < 2 ^ 250) (k : ∀ H', Same H H' → Q (.int (sm (fun b => s b * v b) n)) H') : sp_weighed [.ref c, .ref r] H Q E := ⟨c, r, n, m, s, v, rfl, hc, hr, hnm, hm, hb, k⟩
end
end L25

namespace L25
open SX Ld
section
variable {P : Program} {w : World} {K : PySem.W.Frag} {mg : Str → Option Value} {base : Heap} {Z : Ad}
theorem c_draw {a : Addr} {m : Int} {H : Hp} {Q : VK} {E : XK} (h0 : 0 < m) (h1 : m < 2 ^ 200) (hs : Stk H a) (k : ∀ r H', 0 ≤ r → r < m → Stk H' a → Off a H H' → Q (.int r) H') : sp_draw [.ref a, .int m] H Q E := ⟨a, m, rfl, h0, h1, hs, k⟩
theorem c_stock {a : Addr} {ns : List Int} {at_ : Nat} {H : Hp} {Q : VK} {E : XK} (h : SqL K H a (ns.map V.int)) (hn : ns.length ≤ 63) (ha : at_ < 1000000) (k : ∀ p H', H p = none → Same H H' → Stk H' p → Q (.ref p) H') : sp_stock K [.ref a, .int (at_ : Int)] H Q E := ⟨a, ns, at_, rfl, h, hn, ha, k⟩
theorem Stk.same {H H' : Hp} {a : Addr} (h : Stk H a) (e : Same H H') : Stk H' a := by obtain ⟨x, y, z, h⟩ := h; exact ⟨x, y, z, e _ _ h⟩
theorem Stk.ne {H : Hp} {a b : Addr} (h : Stk H a) (hb : H b = none) : a ≠ b := by obtain ⟨x, y, z, h⟩ := h; exact ne_of_none h hb
theorem Stk.put {H : Hp} {a b : Addr} {o : HO} (h : Stk H a) (n : a ≠ b) : Stk (upd H b o) a := by obtain ⟨x, y, z, h⟩ := h; exact ⟨x, y, z, by rw [upd_ne n]; exact h⟩
theorem Off.putN {H H' : Hp} {a b : Addr} {o : HO} (h : Off a H H') (n : H b = none) : Off a H (upd H' b o) := fun c u hc q => by rw [upd_ne (ne_of_none q n)]; exact h c u hc q
theorem Stk.free {H H' : Hp} {a p : Addr} (s : Stk H' a) (o : Off a H H') (h : H' p = none) : H p = none := by obtain ⟨x, y, z, q⟩ := s; exact off_free o q h
/-- falls so far -/
def FalL (l : List Int) : Prop := ∀ (j : Nat) (f : Int), l[j]? = some f → -1 ≤ f ∧ f ≤ j ∧ (0 < j → f ≤ (j : Int) - 1)
theorem FalL.ok {l : List Int} (h : FalL l) : OkF (fn l) := fun i => by
  unfold fn
  rw [List.getD_eq_getElem?_getD]
  cases hi : l[i]? with
  | none => simp; omega
  | some f => exact h i f hi
theorem FalL.snoc {l : List Int} {f : Int} (h : FalL l) (h1 : -1 ≤ f) (h2 : f ≤ l.length) (h3 : 0 < l.length → f ≤ (l.length : Int) - 1) : FalL (l ++ [f]) := fun j g hg => by
  by_cases hj : j < l.length
  · rw [List.getElem?_append_left hj] at hg
    exact h j g hg
  · have hl := (List.getElem?_eq_some_iff.mp hg).1
    rw [List.length_append, List.length_cons, List.length_nil] at hl
    rw [List.getElem?_append_right (by omega), show j - l.length = 0 by omega] at hg
    cases hg
    rw [show j = l.length by omega]
    exact ⟨h1, h2, h3⟩
def sp_falls : Sp := fun vs H Q _ => ∃ (st : Addr) (n : Nat), vs = [.ref st, .int (n : Int)] ∧ n ≤ 41 ∧ Stk H st ∧ ∀ p (l : List Int) H', H p = none → Stk H' st → Off st H H' → H' p = some (.lst (l.map V.int)) → l.length = n → FalL l → Q (.ref p) H'
theorem d_law_e_falls (T : Txt K w mg Z) : Dfn P w K mg base 2 "_law_e_falls" ["stock", "rungs"] (sp_falls) := by
  obtain ⟨f, fd, F, hm, hb⟩ := T.f_law_e_falls
  refine ⟨f, fd, F.ok sc_law_e_falls (fun vs H Q E h => by first | (obtain ⟨rfl, _⟩ := h; rfl) | (obtain ⟨_, rfl, _⟩ := h; rfl) | (obtain ⟨_, _, rfl, _⟩ := h; rfl) | (obtain ⟨_, _, _, rfl, _⟩ := h; rfl) | (obtain ⟨_, _, _, _, rfl, _⟩ := h; rfl) | (obtain ⟨_, _, _, _, _, rfl, _⟩ := h; rfl) | (obtain ⟨_, _, _, _, _, _, rfl, _⟩ := h; rfl) | (obtain ⟨_, _, _, _, _, _, _, rfl, _⟩ := h; rfl) | (obtain ⟨_, _, _, _, _, _, _, _, rfl, _⟩ := h; rfl) | (obtain ⟨_, _, _, _, _, _, _, _, _, rfl, _⟩ := h; rfl) | (obtain ⟨_, _, _, _, _, _, _, _, _, _, rfl, _⟩ := h; rfl) | (obtain ⟨_, _, _, _, _, _, _, _, _, _, _, rfl, _⟩ := h; rfl) | (obtain ⟨_, _, _, _, _, _, _, _, _, _, _, _, rfl, _⟩ := h; rfl) | (obtain ⟨_, _, _, _, _, _, _, _, _, _, _, _, _, rfl, _⟩ := h; rfl) | (obtain ⟨_, _, _, _, _, _, _, _, _, _, _, _, _, _, rfl, _⟩ := h; rfl) | (obtain ⟨_, _, _, _, _, _, _, _, _, _, _, _, _, _, _, rfl, _⟩ := h; rfl) | (obtain ⟨_, _, _, _, _, _, _, _, _, _, _, _, _, _, _, _, rfl, _⟩ := h; rfl)) (fun cdv A outer s H vs Q E hr h => ?_), hm, F.kp, hb⟩
  obtain ⟨st, n, rfl, n40, hs, k⟩ := h
  have D_law_draw := d_law_draw (P := P) (base := base) T
  refine ⟨_, (pss_cons (ps_set (i := 2) sc_law_e_falls.nd rfl (.inl rfl) (pe_dfn D_law_draw (hr.mono (by decide)) (by rfl) (pa_cons (pv 0) (pa_cons pe_int pa_nil))))
      (pss_cons (ps_set (i := 3) sc_law_e_falls.nd rfl (.inl rfl) (pe_lst pa_nil))
      (pss_cons (ps_for PassesOwn.never rfl (pi_range1 (by rfl) T.b_range (pa_cons (pv 1) pa_nil)) (pg_name (i := 4) sc_law_e_falls.nd rfl (.inl rfl))
        (pss_one (ps_if (pt_cmpR (op_uEq hr.units) (pv 2) pe_int (nomark _)) (pss_one (ps_expr (pe_bm PySem.F.plainAttrs_list PySem.F.slot_list_append PySem.F.type_list_append mt_append (pv 3) (pa_cons pe_int pa_nil)))) (pss_one (ps_if (pt_cmpR (op_uEq hr.units) (pv 2) pe_int (nomark _)) (pss_one (ps_expr (pe_bm PySem.F.plainAttrs_list PySem.F.slot_list_append PySem.F.type_list_append mt_append (pv 3) (pa_cons (pe_callB (call_uMax2 rfl) (by rfl) T.b_max bt_max (pa_cons pe_int (pa_cons (pe_op op_sub (pv 4) pe_int) pa_nil))) pa_nil)))) (pss_one (ps_if (pt_cmpR (op_uEq hr.units) (pv 2) pe_int (nomark _)) (pss_one (ps_expr (pe_bm PySem.F.plainAttrs_list PySem.F.slot_list_append PySem.F.type_list_append mt_append (pv 3) (pa_cons (pe_un un_neg pe_int) pa_nil)))) (pss_one (ps_if (pt_cmpR op_lt (pv 2) pe_int (nomark _)) (pss_one (ps_expr (pe_bm PySem.F.plainAttrs_list PySem.F.slot_list_append PySem.F.type_list_append mt_append (pv 3) (pa_cons (pe_ifExp (pt_cmpR op_gt (pv 4) pe_int (nomark _)) (pe_dfn D_law_draw (hr.mono (by decide)) (by rfl) (pa_cons (pv 0) (pa_cons (pv 4) pa_nil))) pe_int) pa_nil)))) (pss_one (ps_expr (pe_bm PySem.F.plainAttrs_list PySem.F.slot_list_append PySem.F.type_list_append mt_append (pv 3) (pa_cons (pe_ifExp (pt_cmpR op_gt (pv 4) pe_int (nomark _)) (pe_op op_sub (pe_dfn D_law_draw (hr.mono (by decide)) (by rfl) (pa_cons (pv 0) (pa_cons (pe_op op_uAdd (pv 4) pe_int) pa_nil))) pe_int) (pe_op op_sub pe_int (pe_dfn D_law_draw (hr.mono (by decide)) (by rfl) (pa_cons (pv 0) (pa_cons pe_int pa_nil))))) pa_nil)))))))))))))
      (pss_one (ps_ret (pv 3)))))), ?_⟩
  try dsimp only [cxOf, Cx.nox, Cx.wish]
  show (_ : TS) _ [some _, some _, none, none, none] _
  o_readsAll
  refine c_draw (by decide) (by decide) hs fun kd H1 kd0 kd1 s1 o1 => ?_
  o_readsAll
  rename_i fl H2 ffl e2 h2 N hN
  rw [Int.toNat_natCast]
  have ffl0 : H fl = none := s1.free o1 ffl
  have n1 : st ≠ fl := s1.ne ffl
  refine f_rng (fun i σ' H' => ∃ (x : Option V) (l : List Int), σ' = [some (.ref st), some (.int (n : Int)), some (.int kd), some (.ref fl), x] ∧ Stk H' st ∧ Off st H H' ∧ H' fl = some (.lst (l.map V.int)) ∧ l.length = i ∧ FalL l) ⟨_, [], rfl, s1.same e2, o1.same e2, h2, rfl, fun _ _ h => nomatch h⟩ ?_ ?_
  · rintro i σ' H3 hi ⟨x, l, rfl, s3, o3, h3, hl, hF⟩
    rw [Int.zero_add]
    have hsz : (l.map V.int).length < sizeLine := by rw [List.length_map, sizeLine_eq]; omega
    have fin : ∀ (f : Int) (H4 : Hp), Stk H4 st → Off st H H4 → -1 ≤ f → f ≤ i → (0 < i → f ≤ (i : Int) - 1) → ∃ (x' : Option V) (l' : List Int), [some (V.ref st), some (.int (n : Int)), some (.int kd), some (.ref fl), some (.int (i : Int))] = [some (.ref st), some (.int (n : Int)), some (.int kd), some (.ref fl), x'] ∧ Stk (upd H4 fl (.lst (l.map V.int ++ [.int f]))) st ∧ Off st H (upd H4 fl (.lst (l.map V.int ++ [.int f]))) ∧ (upd H4 fl (.lst (l.map V.int ++ [.int f]))) fl = some (.lst (l'.map V.int)) ∧ l'.length = i + 1 ∧ FalL l' := fun f H4 s4 o4 f1 f2 f3 =>
      ⟨_, l ++ [f], rfl, s4.put n1, Off.putN o4 ffl0, by rw [upd_same, List.map_append]; rfl, by rw [List.length_append, hl]; rfl, hF.snoc f1 (by omega) (by omega)⟩
    have hd : ∀ {H4 : Hp}, Off st H3 H4 → H4 fl = some (.lst (l.map V.int)) := fun o => o _ _ n1.symm h3
    o_readsAll
    refine br (fun h => ?_) (fun h => ?_)
    · o_readsAll
      exact fin _ _ s3 o3 (by decide) (by omega) (by omega)
    · o_readsAll
      refine br (fun h => ?_) (fun h => ?_)
      · o_readsAll
        exact fin _ _ s3 o3 (by split <;> omega) (by split <;> omega) (by split <;> omega)
      · o_readsAll
        refine br (fun h => ?_) (fun h => ?_)
        · o_readsAll
          exact fin _ _ s3 o3 (by decide) (by omega) (by omega)
        · o_readsAll
          refine br (fun h => ?_) (fun h => ?_)
          · o_readsAll
            refine br (fun h => ?_) (fun h => ?_)
            · o_readsAll
              refine c_draw (by omega) (by omega) s3 fun r H4 r0 r1 s4 o4 => ?_
              have h4 := hd o4
              o_readsAll
              exact fin _ _ s4 (o3.trans o4) (by omega) (by omega) (by omega)
            · o_readsAll
              exact fin _ _ s3 o3 (by decide) (by omega) (by omega)
          · o_readsAll
            refine br (fun h => ?_) (fun h => ?_)
            · o_readsAll
              refine c_draw (by omega) (by omega) s3 fun r H4 r0 r1 s4 o4 => ?_
              have h4 := hd o4
              o_readsAll
              exact fin _ _ s4 (o3.trans o4) (by omega) (by omega) (by omega)
            · o_readsAll
              refine c_draw (by omega) (by omega) s3 fun r H4 r0 r1 s4 o4 => ?_
              have h4 := hd o4
              o_readsAll
              exact fin _ _ s4 (o3.trans o4) (by omega) (by omega) (by omega)
  · rintro σ' H3 ⟨x, l, rfl, s3, o3, h3, hl, hF⟩
    o_readsAll
    exact k fl l H3 ffl0 s3 o3 h3 hl hF
end
end L25

namespace L25
open SX Ld
section
variable {P : Program} {w : World} {K : PySem.W.Frag} {mg : Str → Option Value} {base : Heap} {Z : Ad}
theorem c_fallsL {st : Addr} {n : Nat} {H : Hp} {Q : VK} {E : XK} (n40 : n ≤ 41) (hs : Stk H st) (k : ∀ p (l : List Int) H', H p = none → Stk H' st → Off st H H' → H' p = some (.lst (l.map V.int)) → l.length = n → FalL l → Q (.ref p) H') : sp_falls [.ref st, .int (n : Int)] H Q E := ⟨st, n, rfl, n40, hs, k⟩
theorem c_falls {st : Addr} {n : Nat} {H : Hp} {Q : VK} {E : XK} (n0 : 0 < n) (n40 : n ≤ 40) (hs : Stk H st) (k : ∀ p fs H', H p = none → Stk H' st → Off st H H' → IL H' p n fs → OkF fs → Q (.ref p) H') : sp_falls [.ref st, .int (n : Int)] H Q E :=
  c_fallsL (by omega) hs fun p l H' hp hs' ho h hl hF => k p (fn l) H' hp hs' ho (by unfold IL; rw [h, rng_fn, hl]) hF.ok
/-- a ladder as the law has it -/
def PlA (H : Hp) (p : Addr) (L : Int) (n : Nat) (fs : Nat → Int) (ret : Bool) : Prop := ∃ fl, H p = some (.lst [.int L, .ref fl, .bl ret]) ∧ IL H fl n fs
theorem PlA.same {H H' : Hp} {p : Addr} {L : Int} {n : Nat} {fs : Nat → Int} {ret : Bool} (h : PlA H p L n fs ret) (e : Same H H') : PlA H' p L n fs ret := by
  obtain ⟨fl, a, b⟩ := h
  exact ⟨fl, e _ _ a, b.same e⟩
def sp_elad : Sp := fun vs H Q _ => ∃ (st : Addr) (lo hi wi : Nat), vs = [.ref st, .int (lo : Int), .int (hi : Int), .int (wi : Int)] ∧ 1 ≤ lo ∧ lo ≤ hi ∧ hi ≤ 40 ∧ 3 ≤ wi ∧ wi ≤ 6 ∧ Stk H st ∧ ∀ p L n fs ret H', H p = none → Stk H' st → Off st H H' → PlA H' p L n fs ret → (∀ fl, H' p = some (.lst [.int L, .ref fl, .bl ret]) → st ≠ fl) → 2 ≤ L → L ≤ wi → lo ≤ n → n ≤ hi → OkF fs → (∃ l : List Int, l.length = n ∧ fs = fn l ∧ FalL l) → Q (.ref p) H'
theorem d_law_e_ladder (T : Txt K w mg Z) : Dfn P w K mg base 3 "_law_e_ladder" ["stock", "least", "most", "widest"] (sp_elad) := by
  obtain ⟨f, fd, F, hm, hb⟩ := T.f_law_e_ladder
  refine ⟨f, fd, F.ok sc_law_e_ladder (fun vs H Q E h => by first | (obtain ⟨rfl, _⟩ := h; rfl) | (obtain ⟨_, rfl, _⟩ := h; rfl) | (obtain ⟨_, _, rfl, _⟩ := h; rfl) | (obtain ⟨_, _, _, rfl, _⟩ := h; rfl) | (obtain ⟨_, _, _, _, rfl, _⟩ := h; rfl) | (obtain ⟨_, _, _, _, _, rfl, _⟩ := h; rfl) | (obtain ⟨_, _, _, _, _, _, rfl, _⟩ := h; rfl) | (obtain ⟨_, _, _, _, _, _, _, rfl, _⟩ := h; rfl) | (obtain ⟨_, _, _, _, _, _, _, _, rfl, _⟩ := h; rfl) | (obtain ⟨_, _, _, _, _, _, _, _, _, rfl, _⟩ := h; rfl) | (obtain ⟨_, _, _, _, _, _, _, _, _, _, rfl, _⟩ := h; rfl) | (obtain ⟨_, _, _, _, _, _, _, _, _, _, _, rfl, _⟩ := h; rfl) | (obtain ⟨_, _, _, _, _, _, _, _, _, _, _, _, rfl, _⟩ := h; rfl) | (obtain ⟨_, _, _, _, _, _, _, _, _, _, _, _, _, rfl, _⟩ := h; rfl) | (obtain ⟨_, _, _, _, _, _, _, _, _, _, _, _, _, _, rfl, _⟩ := h; rfl) | (obtain ⟨_, _, _, _, _, _, _, _, _, _, _, _, _, _, _, rfl, _⟩ := h; rfl) | (obtain ⟨_, _, _, _, _, _, _, _, _, _, _, _, _, _, _, _, rfl, _⟩ := h; rfl)) (fun cdv A outer s H vs Q E hr h => ?_), hm, F.kp, hb⟩
  obtain ⟨st, lo, hi, wi, rfl, lo1, lohi, hi40, wi3, wi6, hs, k⟩ := h
  have D_law_draw := d_law_draw (P := P) (base := base) T
  have D_law_e_falls := d_law_e_falls (P := P) (base := base) T
  refine ⟨_, (pss_cons (ps_set (i := 4) sc_law_e_ladder.nd rfl (.inl rfl) (pe_op op_uAdd (pv 1) (pe_dfn D_law_draw (hr.mono (by decide)) (by rfl) (pa_cons (pv 0) (pa_cons (pe_op op_uAdd (pe_op op_sub (pv 2) (pv 1)) pe_int) pa_nil)))))
      (pss_cons (ps_set (i := 5) sc_law_e_ladder.nd rfl (.inl rfl) (pe_ifExp (pt_cmpR op_gt (pe_dfn D_law_draw (hr.mono (by decide)) (by rfl) (pa_cons (pv 0) (pa_cons pe_int pa_nil))) pe_int (nomark _)) pe_int (pe_op op_uAdd pe_int (pe_dfn D_law_draw (hr.mono (by decide)) (by rfl) (pa_cons (pv 0) (pa_cons (pe_op op_sub (pv 3) pe_int) pa_nil))))))
      (pss_one (ps_ret (pe_lst (pa_cons (pv 5) (pa_cons (pe_dfn D_law_e_falls (hr.mono (by decide)) (by rfl) (pa_cons (pv 0) (pa_cons (pv 4) pa_nil))) (pa_cons (pe_cmpR (op_uEq hr.units) (pe_dfn D_law_draw (hr.mono (by decide)) (by rfl) (pa_cons (pv 0) (pa_cons pe_int pa_nil))) pe_int (nomark _)) pa_nil)))))))), ?_⟩
  try dsimp only [cxOf, Cx.nox, Cx.wish]
  show (_ : TS) _ [some _, some _, some _, some _, none, none] _
  o_readsAll
  refine c_draw (by omega) (by omega) hs fun r1 H1 r10 r11 s1 o1 => ?_
  o_readsAll
  refine c_draw (by decide) (by decide) s1 fun r2 H2 r20 r21 s2 o2 => ?_
  o_readsAll
  have o12 := o1.trans o2
  refine jnE (fun x H' => ∃ L : Int, x = .int L ∧ 2 ≤ L ∧ L ≤ wi ∧ Stk H' st ∧ Off st H H') ?_ (fun Q' hQ => br (fun h => ?_) (fun h => ?_))
  · rintro x H3 ⟨L, rfl, l2, l6, s3, o3⟩
    o_readsAll
    rw [show ((lo : Int) + r1 : Int) = ((lo + r1.toNat : Nat) : Int) by omega]
    refine c_fallsL (by omega) s3 fun fl l H4 ffl s4 o4 h4 hll hF => ?_
    o_readsAll
    refine c_draw (by decide) (by decide) s4 fun r5 H5 r50 r51 s5 o5 => ?_
    have nf : st ≠ fl := s3.ne ffl
    have h5 := o5 _ _ nf.symm h4
    o_readsAll
    rename_i p H6 fp e6 h6
    have o35 := (o3.trans o4).trans o5
    exact k p L (lo + r1.toNat) (fn l) _ H6 (s5.free o35 fp) (s5.same e6) (o35.same e6) ⟨fl, h6, by unfold IL; rw [e6 _ _ h5, rng_fn, hll]⟩ (fun fl' h' => by rw [h6] at h'; cases h'; exact nf) l2 l6 (by omega) (by omega) hF.ok ⟨l, hll, rfl, hF⟩
  · o_readsAll
    exact hQ _ _ ⟨_, rfl, by omega, by omega, s2, o12⟩
  · o_readsAll
    refine c_draw (by omega) (by omega) s2 fun r3 H3 r30 r31 s3 o3 => ?_
    o_readsAll
    exact hQ _ _ ⟨_, rfl, by omega, by omega, s3, o12.trans o3⟩
theorem c_elad {st : Addr} {lo hi wi : Nat} {H : Hp} {Q : VK} {E : XK} (lo1 : 1 ≤ lo) (lh : lo ≤ hi) (h40 : hi ≤ 40) (w3 : 3 ≤ wi) (w6 : wi ≤ 6) (hs : Stk H st) (k : ∀ p L n fs ret H', H p = none → Stk H' st → Off st H H' → PlA H' p L n fs ret → (∀ fl, H' p = some (.lst [.int L, .ref fl, .bl ret]) → st ≠ fl) → 2 ≤ L → L ≤ wi → lo ≤ n → n ≤ hi → OkF fs → Q (.ref p) H') : sp_elad [.ref st, .int (lo : Int), .int (hi : Int), .int (wi : Int)] H Q E := ⟨st, lo, hi, wi, rfl, lo1, lh, h40, w3, w6, hs, fun p L n fs ret H' a b c d e f g h i j _ => k p L n fs ret H' a b c d e f g h i j⟩
theorem c_eladL {st : Addr} {lo hi wi : Nat} {H : Hp} {Q : VK} {E : XK} (lo1 : 1 ≤ lo) (lh : lo ≤ hi) (h40 : hi ≤ 40) (w3 : 3 ≤ wi) (w6 : wi ≤ 6) (hs : Stk H st) (k : ∀ p L (l : List Int) ret H', H p = none → Stk H' st → Off st H H' → PlA H' p L l.length (fn l) ret → (∀ fl, H' p = some (.lst [.int L, .ref fl, .bl ret]) → st ≠ fl) → 2 ≤ L → L ≤ wi → lo ≤ l.length → l.length ≤ hi → FalL l → Q (.ref p) H') : sp_elad [.ref st, .int (lo : Int), .int (hi : Int), .int (wi : Int)] H Q E := ⟨st, lo, hi, wi, rfl, lo1, lh, h40, w3, w6, hs, fun p L n fs ret H' a b c d e f g h i _ z => by
  obtain ⟨l, rfl, rfl, hF⟩ := z
  exact k p L l ret H' a b c d e f g h i hF⟩
def sp_low (K : PySem.W.Frag) : Sp := fun vs H Q _ => ∃ (r : Addr) (f : Int) (m : Nat) (v : Nat → Int), vs = [.ref r, .int f] ∧ IL H r m v ∧ f < m ∧ Q (.int (lowV v f)) H
theorem d_law_e_low (T : Txt K w mg Z) : Dfn P w K mg base 1 "_law_e_low" ["row", "fall"] (sp_low K) := by
  obtain ⟨f, fd, F, hm, hb⟩ := T.f_law_e_low
  refine ⟨f, fd, F.ok sc_law_e_low (fun vs H Q E h => by first | (obtain ⟨rfl, _⟩ := h; rfl) | (obtain ⟨_, rfl, _⟩ := h; rfl) | (obtain ⟨_, _, rfl, _⟩ := h; rfl) | (obtain ⟨_, _, _, rfl, _⟩ := h; rfl) | (obtain ⟨_, _, _, _, rfl, _⟩ := h; rfl) | (obtain ⟨_, _, _, _, _, rfl, _⟩ := h; rfl) | (obtain ⟨_, _, _, _, _, _, rfl, _⟩ := h; rfl) | (obtain ⟨_, _, _, _, _, _, _, rfl, _⟩ := h; rfl) | (obtain ⟨_, _, _, _, _, _, _, _, rfl, _⟩ := h; rfl) | (obtain ⟨_, _, _, _, _, _, _, _, _, rfl, _⟩ := h; rfl) | (obtain ⟨_, _, _, _, _, _, _, _, _, _, rfl, _⟩ := h; rfl) | (obtain ⟨_, _, _, _, _, _, _, _, _, _, _, rfl, _⟩ := h; rfl) | (obtain ⟨_, _, _, _, _, _, _, _, _, _, _, _, rfl, _⟩ := h; rfl) | (obtain ⟨_, _, _, _, _, _, _, _, _, _, _, _, _, rfl, _⟩ := h; rfl) | (obtain ⟨_, _, _, _, _, _, _, _, _, _, _, _, _, _, rfl, _⟩ := h; rfl) | (obtain ⟨_, _, _, _, _, _, _, _, _, _, _, _, _, _, _, rfl, _⟩ := h; rfl) | (obtain ⟨_, _, _, _, _, _, _, _, _, _, _, _, _, _, _, _, rfl, _⟩ := h; rfl)) (fun cdv A outer s H vs Q E hr h => ?_), hm, F.kp, hb⟩
  obtain ⟨r, f, m, v, rfl, hr', hf, k⟩ := h
  refine ⟨_, (pss_one (ps_ret (pe_ifExp (pt_cmpR op_ge (pv 1) pe_int (nomark _)) (pe_ix ix_seq (pv 0) (pv 1) (fun _ _ => rfl)) pe_int))), ?_⟩
  try dsimp only [cxOf, Cx.nox, Cx.wish]
  show (_ : TS) _ [some _, some _] _
  o_readsAll
  refine br (fun h => ?_) (fun h => ?_)
  · o_readsAll
    refine g_ixL hr'.sq (at_ofN (j := f.toNat) (by omega) (rng_at (by omega))) ?_
    unfold lowV at k
    rw [if_neg (by omega)] at k
    exact k
  · o_readsAll
    unfold lowV at k
    rw [if_pos (by omega)] at k
    exact k
theorem c_low {r : Addr} {f : Int} {m : Nat} {v : Nat → Int} {H : Hp} {Q : VK} {E : XK} (hr : IL H r m v) (hf : f < m) (k : Q (.int (lowV v f)) H) : sp_low K [.ref r, .int f] H Q E := ⟨r, f, m, v, rfl, hr, hf, k⟩
def sp_eheads : Sp := fun vs H Q _ => ∃ (p : Addr) (L : Int) (n : Nat) (fs : Nat → Int) (ret : Bool), vs = [.ref p] ∧ PlA H p L n fs ret ∧ 0 ≤ L ∧ L ≤ 6 ∧ n ≤ 40 ∧ OkF fs ∧ ∀ q H', H q = none → Same H H' → IL H' q (n + 1) (hd L fs) → Q (.ref q) H'
theorem d_law_e_heads (T : Txt K w mg Z) : Dfn P w K mg base 2 "_law_e_heads" ["ladder"] (sp_eheads) := by
  obtain ⟨f, fd, F, hm, hb⟩ := T.f_law_e_heads
  refine ⟨f, fd, F.ok sc_law_e_heads (fun vs H Q E h => by first | (obtain ⟨rfl, _⟩ := h; rfl) | (obtain ⟨_, rfl, _⟩ := h; rfl) | (obtain ⟨_, _, rfl, _⟩ := h; rfl) | (obtain ⟨_, _, _, rfl, _⟩ := h; rfl) | (obtain ⟨_, _, _, _, rfl, _⟩ := h; rfl) | (obtain ⟨_, _, _, _, _, rfl, _⟩ := h; rfl) | (obtain ⟨_, _, _, _, _, _, rfl, _⟩ := h; rfl) | (obtain ⟨_, _, _, _, _, _, _, rfl, _⟩ := h; rfl) | (obtain ⟨_, _, _, _, _, _, _, _, rfl, _⟩ := h; rfl) | (obtain ⟨_, _, _, _, _, _, _, _, _, rfl, _⟩ := h; rfl) | (obtain ⟨_, _, _, _, _, _, _, _, _, _, rfl, _⟩ := h; rfl) | (obtain ⟨_, _, _, _, _, _, _, _, _, _, _, rfl, _⟩ := h; rfl) | (obtain ⟨_, _, _, _, _, _, _, _, _, _, _, _, rfl, _⟩ := h; rfl) | (obtain ⟨_, _, _, _, _, _, _, _, _, _, _, _, _, rfl, _⟩ := h; rfl) | (obtain ⟨_, _, _, _, _, _, _, _, _, _, _, _, _, _, rfl, _⟩ := h; rfl) | (obtain ⟨_, _, _, _, _, _, _, _, _, _, _, _, _, _, _, rfl, _⟩ := h; rfl) | (obtain ⟨_, _, _, _, _, _, _, _, _, _, _, _, _, _, _, _, rfl, _⟩ := h; rfl)) (fun cdv A outer s H vs Q E hr h => ?_), hm, F.kp, hb⟩
  obtain ⟨p, L, n, fs, ret, rfl, ⟨fl, h1, h2⟩, l0, l6, n40, ok, k⟩ := h
  have h2' := h2
  unfold IL at h2'
  have D_law_e_low := d_law_e_low (P := P) (base := base) T
  refine ⟨_, (pss_cons (ps_set (i := 1) sc_law_e_heads.nd rfl (.inl rfl) (pe_ix ix_seq (pv 0) pe_int (fun _ _ => rfl)))
      (pss_cons (ps_set (i := 2) sc_law_e_heads.nd rfl (.inl rfl) (pe_ix ix_seq (pv 0) pe_int (fun _ _ => rfl)))
      (pss_cons (ps_set (i := 3) sc_law_e_heads.nd rfl (.inl rfl) (pe_lst (pa_cons pe_int pa_nil)))
      (pss_cons (ps_for PassesOwn.never rfl (pi_range1 (by rfl) T.b_range (pa_cons (pe_callB call_uLen (by rfl) T.b_len bt_len (pa_cons (pv 2) pa_nil)) pa_nil)) (pg_name (i := 4) sc_law_e_heads.nd rfl (.inl rfl))
        (pss_one (ps_expr (pe_bm PySem.F.plainAttrs_list PySem.F.slot_list_append PySem.F.type_list_append mt_append (pv 3) (pa_cons (pe_op op_sub (pe_op op_uMul (pv 1) (pe_ix ix_seq (pv 3) (pv 4) (fun _ _ => rfl))) (pe_op op_uMul (pe_op op_sub (pv 1) pe_int) (pe_dfn D_law_e_low (hr.mono (by decide)) (by rfl) (pa_cons (pv 3) (pa_cons (pe_ix ix_seq (pv 2) (pv 4) (fun _ _ => rfl)) pa_nil))))) pa_nil)))))
      (pss_one (ps_ret (pv 3))))))), ?_⟩
  try dsimp only [cxOf, Cx.nox, Cx.wish]
  show (_ : TS) _ [some _, none, none, none, none] _
  o_readsAll
  rename_i r H1 fr e1 hr1 N hN
  rw [rng_len, Int.toNat_natCast]
  refine f_rng (fun i σ' H' => ∃ x, σ' = [some (.ref p), some (.int L), some (.ref fl), some (.ref r), x] ∧ Same H H' ∧ IL H' r (i + 1) (hd L fs)) ⟨_, rfl, e1, hr1⟩ ?_ ?_
  · rintro i σ' H2 hi ⟨x, rfl, e2, hr2⟩
    rw [Int.zero_add]
    have okf := ok i
    have hr2' : H2 r = some (.lst (rng (i + 1) (hd L fs))) := hr2
    o_readsAll
    refine g_ixL hr2.sq (atI_nat (rng_at (by omega))) ?_
    o_readsAll
    refine g_ixL (h2.same e2).sq (atI_nat (rng_at hi)) ?_
    o_readsAll
    refine c_low hr2 (by omega) ?_
    o_readsAll
    refine ⟨_, rfl, Eg.Same.put e2 fr, ?_⟩
    show upd _ _ _ _ = _
    rw [upd_same, rng_succ (i + 1), hd_succ ok]
  · rintro σ' H2 ⟨x, rfl, e2, hr2⟩
    o_readsAll
    exact k r H2 fr e2 hr2
def sp_eloads : Sp := fun vs H Q _ => ∃ (p : Addr) (L : Int) (n : Nat) (fs : Nat → Int) (ret : Bool), vs = [.ref p] ∧ PlA H p L n fs ret ∧ 0 ≤ L ∧ L ≤ 6 ∧ n ≤ 40 ∧ OkF fs ∧ ∀ q qs H', H q = none → Same H H' → H' q = some (.lst (qs.map V.ref)) → qs.length = n → RowsAt H' qs n L fs → Q (.ref q) H'
theorem d_law_e_loads (T : Txt K w mg Z) : Dfn P w K mg base 2 "_law_e_loads" ["ladder"] (sp_eloads) := by
  obtain ⟨f, fd, F, hm, hb⟩ := T.f_law_e_loads
  refine ⟨f, fd, F.ok sc_law_e_loads (fun vs H Q E h => by first | (obtain ⟨rfl, _⟩ := h; rfl) | (obtain ⟨_, rfl, _⟩ := h; rfl) | (obtain ⟨_, _, rfl, _⟩ := h; rfl) | (obtain ⟨_, _, _, rfl, _⟩ := h; rfl) | (obtain ⟨_, _, _, _, rfl, _⟩ := h; rfl) | (obtain ⟨_, _, _, _, _, rfl, _⟩ := h; rfl) | (obtain ⟨_, _, _, _, _, _, rfl, _⟩ := h; rfl) | (obtain ⟨_, _, _, _, _, _, _, rfl, _⟩ := h; rfl) | (obtain ⟨_, _, _, _, _, _, _, _, rfl, _⟩ := h; rfl) | (obtain ⟨_, _, _, _, _, _, _, _, _, rfl, _⟩ := h; rfl) | (obtain ⟨_, _, _, _, _, _, _, _, _, _, rfl, _⟩ := h; rfl) | (obtain ⟨_, _, _, _, _, _, _, _, _, _, _, rfl, _⟩ := h; rfl) | (obtain ⟨_, _, _, _, _, _, _, _, _, _, _, _, rfl, _⟩ := h; rfl) | (obtain ⟨_, _, _, _, _, _, _, _, _, _, _, _, _, rfl, _⟩ := h; rfl) | (obtain ⟨_, _, _, _, _, _, _, _, _, _, _, _, _, _, rfl, _⟩ := h; rfl) | (obtain ⟨_, _, _, _, _, _, _, _, _, _, _, _, _, _, _, rfl, _⟩ := h; rfl) | (obtain ⟨_, _, _, _, _, _, _, _, _, _, _, _, _, _, _, _, rfl, _⟩ := h; rfl)) (fun cdv A outer s H vs Q E hr h => ?_), hm, F.kp, hb⟩
  obtain ⟨p, L, n, fs, ret, rfl, ⟨fl, h1, h2⟩, l0, l6, n40, ok, k⟩ := h
  have h2' := h2
  unfold IL at h2'
  have D_law_e_low := d_law_e_low (P := P) (base := base) T
  refine ⟨_, (pss_cons (ps_set (i := 1) sc_law_e_loads.nd rfl (.inl rfl) (pe_ix ix_seq (pv 0) pe_int (fun _ _ => rfl)))
      (pss_cons (ps_set (i := 2) sc_law_e_loads.nd rfl (.inl rfl) (pe_ix ix_seq (pv 0) pe_int (fun _ _ => rfl)))
      (pss_cons (ps_set (i := 3) sc_law_e_loads.nd rfl (.inl rfl) (pe_lst pa_nil))
      (pss_cons (ps_for PassesOwn.never rfl (pi_range1 (by rfl) T.b_range (pa_cons (pe_callB call_uLen (by rfl) T.b_len bt_len (pa_cons (pv 2) pa_nil)) pa_nil)) (pg_name (i := 4) sc_law_e_loads.nd rfl (.inl rfl))
        (pss_cons (ps_setLc (i := 5) (own := [("b", 6)]) (by rfl) sc_law_e_loads.nd rfl rfl (sw_true rfl rfl rfl (by decide +kernel)) (pi_range1 (by rfl) T.b_range (pa_cons (pe_op op_uAdd (pv 4) pe_int) pa_nil)) (blkOk_by (N := n_law_e_loads) (sc := defScope st_law_e_loads) (by decide +kernel)) (fun _ _ _ _ _ => (pg_name (i := 6) sc_law_e_loads.nd rfl (.inl rfl))) (fun _ _ _ _ _ => pts_nil) (fun _ _ _ _ _ => pe_int))
      (pss_cons (ps_expr (pe_bm PySem.F.plainAttrs_list PySem.F.slot_list_append PySem.F.type_list_append mt_append (pv 5) (pa_cons pe_int pa_nil)))
      (pss_cons (ps_for PassesOwn.never rfl (pi_range2 (by rfl) T.b_range (pa_cons (pe_op op_uAdd (pv 4) pe_int) (pa_cons (pe_callB call_uLen (by rfl) T.b_len bt_len (pa_cons (pv 2) pa_nil)) pa_nil))) (pg_name (i := 6) sc_law_e_loads.nd rfl (.inl rfl))
        (pss_one (ps_expr (pe_bm PySem.F.plainAttrs_list PySem.F.slot_list_append PySem.F.type_list_append mt_append (pv 5) (pa_cons (pe_op op_sub (pe_op op_uMul (pv 1) (pe_ix ix_seq (pv 5) (pv 6) (fun _ _ => rfl))) (pe_op op_uMul (pe_op op_sub (pv 1) pe_int) (pe_dfn D_law_e_low (hr.mono (by decide)) (by rfl) (pa_cons (pv 5) (pa_cons (pe_ix ix_seq (pv 2) (pv 6) (fun _ _ => rfl)) pa_nil))))) pa_nil)))))
      (pss_one (ps_expr (pe_bm PySem.F.plainAttrs_list PySem.F.slot_list_append PySem.F.type_list_append mt_append (pv 3) (pa_cons (pv 5) pa_nil))))))))
      (pss_one (ps_ret (pv 3))))))), ?_⟩
  try dsimp only [cxOf, Cx.nox, Cx.wish]
  show (_ : TS) _ [some _, none, none, none, none, none, none] _
  o_readsAll
  rename_i rp H1 frp e1 hr1 N hN
  rw [rng_len, Int.toNat_natCast]
  refine f_rng (fun i σ' H' => ∃ (x y z : Option V) (qs : List Addr), σ' = [some (.ref p), some (.int L), some (.ref fl), some (.ref rp), x, y, z] ∧ Same H H' ∧ H' rp = some (.lst (qs.map V.ref)) ∧ qs.length = i ∧ RowsAt H' qs n L fs) ⟨_, _, _, [], rfl, e1, hr1, rfl, fun _ _ h => nomatch h⟩ ?_ ?_
  · rintro i σ' H2 hi ⟨x, y, z, qs, rfl, e2, hq2, hql, hR⟩
    rw [Int.zero_add]
    have hf2 : H2 fl = some (.lst (rng n fs)) := e2 _ _ h2'
    o_readsAll
    rw [show ((i : Int) + 1).toNat = i + 1 by omega]
    refine l_rngP (fun b => .int 0) (fun x => rfl) (fun D' b H4 hb hD' e4 h4 => ?_) fun r H3 fr e3 h3 => ?_
    · o_readsAll
      exact g_itemP e4 h4 hD' (by rw [sizeLine_eq]; omega) rfl
    · have hr3 : H3 r = some (.lst (rng (i + 1) (ld L fs i))) := by
        rw [h3]
        exact congrArg (fun l => some (HO.lst l)) (rng_congr (n := i + 1) (f := fun _ => 0) fun j hj => (ld_zero ok j (by omega)).symm)
      have hf3 := e3 _ _ hf2
      have hq3 := e3 _ _ hq2
      have nfr : fl ≠ r := ne_of_none hf2 fr
      have nqr : rp ≠ r := ne_of_none hq2 fr
      o_readsAll
      rename_i N2 hN2
      rw [rng_len, show ((n : Int) - ((i : Int) + 1)).toNat = n - (i + 1) by omega]
      have fr0 : H r = none := e2.free fr
      refine f_rng (fun j σ' H' => ∃ (z : Option V), σ' = [some (.ref p), some (.int L), some (.ref fl), some (.ref rp), some (.int (i : Int)), some (.ref r), z] ∧ Same H2 H' ∧ H' r = some (.lst (rng (i + 1 + j + 1) (ld L fs i)))) ⟨_, rfl, Eg.Same.put e3 fr, ?_⟩ ?_ ?_
      · rw [upd_same, rng_succ (i + 1), ld_one ok]
      · rintro j σ' H4 hj ⟨z, rfl, e4, h4⟩
        have okf := ok (i + 1 + j)
        have hf4 := e4 _ _ hf2
        have h4' : IL H4 r (i + 1 + j + 1) (ld L fs i) := h4
        rw [show ((i : Int) + 1 + (j : Int)) = ((i + 1 + j : Nat) : Int) by omega]
        o_readsAll
        refine g_ixL (.of h4) (atI_nat (rng_at (by omega))) ?_
        o_readsAll
        refine g_ixL (.of hf4) (atI_nat (rng_at (by omega))) ?_
        o_readsAll
        refine c_low h4' (by omega) ?_
        o_readsAll
        refine ⟨_, rfl, Eg.Same.put e4 fr, ?_⟩
        have hv : ld L fs i (i + 1 + j + 1) = L * ld L fs i (i + 1 + j) - (L - 1) * lowV (ld L fs i) (fs (i + 1 + j)) := by
          have hz : Ld.dl i (i + 1 + j) = 0 := by unfold Ld.dl; rw [if_neg (by omega)]
          rw [ld_succ ok, hz, Int.add_zero]
        rw [upd_same, show i + 1 + (j + 1) + 1 = i + 1 + j + 1 + 1 by omega, rng_succ (i + 1 + j + 1), hv]
      · rintro σ' H4 ⟨z, rfl, e4, h4⟩
        have hq4 := e4 _ _ hq2
        have hR4 := hR.same e4
        rw [show i + 1 + (n - (i + 1)) + 1 = n + 1 by omega] at h4
        o_readsAll
        refine ⟨_, _, _, qs ++ [r], rfl, Eg.Same.put (e2.trans e4) frp, ?_, by rw [List.length_append, hql]; rfl, RowsAt.snoc hR4 (by rw [hql]; exact h4) hq4⟩
        rw [upd_same, List.map_append]; rfl
  · rintro σ' H2 ⟨x, y, z, qs, rfl, e2, hq2, hql, hR⟩
    o_readsAll
    exact k rp qs H2 frp e2 hq2 hql hR
end
end L25

namespace L25
set_option exponentiation.threshold 2000
open SX Ld
section
variable {P : Program} {w : World} {K : PySem.W.Frag} {mg : Str → Option Value} {base : Heap} {Z : Ad}
theorem c_mat {n : Nat} {x y : V} {H : Hp} {Q : VK} {E : XK} (h : Alk H n x y) (k : ∀ H', Same H H' → Q (.bl true) H') : sp_mat n [x, y] H Q E := ⟨x, y, rfl, h, k⟩
/-- tuples, lists of plain values -/
def Flat : V → Prop
  | .int _ => True
  | .str _ => True
  | .bl _ => True
  | _ => False
theorem alk_flat {H : Hp} {m : Nat} {v : V} (h : Flat v) : Alk H (m + 1) v v := by
  cases v <;> first | exact .inr (.inl ⟨_, rfl, rfl⟩) | exact .inr (.inr (.inl ⟨_, rfl, rfl⟩)) | exact .inr (.inr (.inr (.inl ⟨_, rfl, rfl⟩))) | exact h.elim
theorem alk_tup {H : Hp} {m : Nat} {a b : Addr} {xs : List V} (ha : H a = some (.tup xs)) (hb : H b = some (.tup xs)) (hl : xs.length ≤ 1000000) (hf : ∀ v ∈ xs, Flat v) : Alk H (m + 2) (.ref a) (.ref b) := by
  refine .inr (.inr (.inr (.inr (.inl ⟨a, b, _, _, rfl, rfl, ha, hb, rfl, hl, fun i u v hu hv => ?_⟩))))
  rw [hu] at hv
  cases hv
  exact alk_flat (hf u (List.mem_of_getElem? hu))
theorem sh_held : SeqAt.shaped (.tuple [.str "held"]) = true := by decide +kernel
theorem eq_held : PyData.eqv (.tuple [.str "held"]) (.tuple [.str "held"]) = true := by decide +kernel
theorem g_neHeld {a b : Addr} {H : Hp} {Q : VK} (ha : H a = some (.tup [.str "held"])) (hb : H b = some (.tup [.str "held"])) (k : Q (.bl false) H) : uNe K (.ref a) (.ref b) H Q := by
  refine .inr ⟨.tuple [.str "held"], .tuple [.str "held"], .tup (.of ha) (.cons (.str _) .nil), .tup (.of hb) (.cons (.str _) .nil), sh_held, sh_held, ?_⟩
  rw [eq_held]
  exact k
theorem g_eqHeld {a b : Addr} {H : Hp} {Q : VK} (ha : H a = some (.tup [.str "held"])) (hb : H b = some (.tup [.str "held"])) (k : Q (.bl true) H) : uEq K (.ref a) (.ref b) H Q := by
  refine .inr ⟨.tuple [.str "held"], .tuple [.str "held"], .tup (.of ha) (.cons (.str _) .nil), .tup (.of hb) (.cons (.str _) .nil), sh_held, sh_held, ?_⟩
  rw [eq_held]
  exact k
theorem alk_il {H : Hp} {m n : Nat} {p q : Addr} {f : Nat → Int} (hp : IL H p n f) (hq : IL H q n f) (h : n ≤ 1000000) : Alk H (m + 2) (.ref p) (.ref q) := by
  refine .inr (.inr (.inr (.inr (.inr ⟨p, q, _, _, rfl, rfl, hp, hq, rfl, by rw [rng_len]; exact h, fun i u v hu hv => ?_⟩))))
  rw [hu] at hv
  cases hv
  have hi := (List.getElem?_eq_some_iff.mp hu).1
  rw [rng_len] at hi
  rw [rng_at hi] at hu
  cases hu
  exact alk_flat trivial
end
end L25

namespace L25
set_option exponentiation.threshold 2000
open SX Ld
section
variable {P : Program} {w : World} {K : PySem.W.Frag} {mg : Str → Option Value} {base : Heap} {Z : Ad}
theorem d_BadLadder_init (T : Txt K w mg Z) : Iex P w K mg base 1 "BadLadder" Z.a_BadLadder ["self", "rung"] (sp_xi K Z.a_BadLadder "rung") := by
  obtain ⟨f, fd, F, hi, ht, hb⟩ := T.f_BadLadder_init
  refine ⟨⟨f, fd, F.ok sc_BadLadder_init (fun vs H Q E h => by first | (obtain ⟨rfl, _⟩ := h; rfl) | (obtain ⟨_, rfl, _⟩ := h; rfl) | (obtain ⟨_, _, rfl, _⟩ := h; rfl) | (obtain ⟨_, _, _, rfl, _⟩ := h; rfl) | (obtain ⟨_, _, _, _, rfl, _⟩ := h; rfl) | (obtain ⟨_, _, _, _, _, rfl, _⟩ := h; rfl) | (obtain ⟨_, _, _, _, _, _, rfl, _⟩ := h; rfl) | (obtain ⟨_, _, _, _, _, _, _, rfl, _⟩ := h; rfl) | (obtain ⟨_, _, _, _, _, _, _, _, rfl, _⟩ := h; rfl) | (obtain ⟨_, _, _, _, _, _, _, _, _, rfl, _⟩ := h; rfl) | (obtain ⟨_, _, _, _, _, _, _, _, _, _, rfl, _⟩ := h; rfl) | (obtain ⟨_, _, _, _, _, _, _, _, _, _, _, rfl, _⟩ := h; rfl) | (obtain ⟨_, _, _, _, _, _, _, _, _, _, _, _, rfl, _⟩ := h; rfl) | (obtain ⟨_, _, _, _, _, _, _, _, _, _, _, _, _, rfl, _⟩ := h; rfl) | (obtain ⟨_, _, _, _, _, _, _, _, _, _, _, _, _, _, rfl, _⟩ := h; rfl) | (obtain ⟨_, _, _, _, _, _, _, _, _, _, _, _, _, _, _, rfl, _⟩ := h; rfl) | (obtain ⟨_, _, _, _, _, _, _, _, _, _, _, _, _, _, _, _, rfl, _⟩ := h; rfl)) (fun cdv A outer s H vs Q E hr h => ?_), hi, ht, T.g_BadLadder, hb⟩, T.o_BadLadder⟩
  have oex := T.o_BadLadder
  have nex := T.n_BadLadder_rung
  obtain ⟨a, v, rfl, ha, k⟩ := h
  refine ⟨_, (pss_cons (ps_expr (pe_winit (by rfl) T.g_WinsError T.wg_WinsError T.wr_WinsError T.wv_WinsError (pa_cons (pv 0) (pa_cons pe_str pa_nil))))
      (pss_one (ps_ost (pv 0) (pv 1) rfl))), ?_⟩
  try dsimp only [cxOf, Cx.nox, Cx.wish]
  show (_ : TS) _ [some _, some _] _
  o_readsAll
  refine g_ve ha oex (by simp) ?_
  o_readsAll
  refine g_ost ha oex nex fun dx hd hn => ?_
  o_readsAll
  exact k dx hd hn
theorem d_BadTable_init (T : Txt K w mg Z) : Iex P w K mg base 1 "BadTable" Z.a_BadTable ["self", "rung"] (sp_xi K Z.a_BadTable "rung") := by
  obtain ⟨f, fd, F, hi, ht, hb⟩ := T.f_BadTable_init
  refine ⟨⟨f, fd, F.ok sc_BadTable_init (fun vs H Q E h => by first | (obtain ⟨rfl, _⟩ := h; rfl) | (obtain ⟨_, rfl, _⟩ := h; rfl) | (obtain ⟨_, _, rfl, _⟩ := h; rfl) | (obtain ⟨_, _, _, rfl, _⟩ := h; rfl) | (obtain ⟨_, _, _, _, rfl, _⟩ := h; rfl) | (obtain ⟨_, _, _, _, _, rfl, _⟩ := h; rfl) | (obtain ⟨_, _, _, _, _, _, rfl, _⟩ := h; rfl) | (obtain ⟨_, _, _, _, _, _, _, rfl, _⟩ := h; rfl) | (obtain ⟨_, _, _, _, _, _, _, _, rfl, _⟩ := h; rfl) | (obtain ⟨_, _, _, _, _, _, _, _, _, rfl, _⟩ := h; rfl) | (obtain ⟨_, _, _, _, _, _, _, _, _, _, rfl, _⟩ := h; rfl) | (obtain ⟨_, _, _, _, _, _, _, _, _, _, _, rfl, _⟩ := h; rfl) | (obtain ⟨_, _, _, _, _, _, _, _, _, _, _, _, rfl, _⟩ := h; rfl) | (obtain ⟨_, _, _, _, _, _, _, _, _, _, _, _, _, rfl, _⟩ := h; rfl) | (obtain ⟨_, _, _, _, _, _, _, _, _, _, _, _, _, _, rfl, _⟩ := h; rfl) | (obtain ⟨_, _, _, _, _, _, _, _, _, _, _, _, _, _, _, rfl, _⟩ := h; rfl) | (obtain ⟨_, _, _, _, _, _, _, _, _, _, _, _, _, _, _, _, rfl, _⟩ := h; rfl)) (fun cdv A outer s H vs Q E hr h => ?_), hi, ht, T.g_BadTable, hb⟩, T.o_BadTable⟩
  have oex := T.o_BadTable
  have nex := T.n_BadTable_rung
  obtain ⟨a, v, rfl, ha, k⟩ := h
  refine ⟨_, (pss_cons (ps_expr (pe_winit (by rfl) T.g_WinsError T.wg_WinsError T.wr_WinsError T.wv_WinsError (pa_cons (pv 0) (pa_cons pe_str pa_nil))))
      (pss_one (ps_ost (pv 0) (pv 1) rfl))), ?_⟩
  try dsimp only [cxOf, Cx.nox, Cx.wish]
  show (_ : TS) _ [some _, some _] _
  o_readsAll
  refine g_ve ha oex (by simp) ?_
  o_readsAll
  refine g_ost ha oex nex fun dx hd hn => ?_
  o_readsAll
  exact k dx hd hn
/-- the errors that are met: name, class, field -/
def ErrC (Z : Ad) (nm : Str) (C : Addr) (f : Str) : Prop := (nm = "BadLadder" ∧ C = Z.a_BadLadder ∧ f = "rung") ∨ (nm = "BadTable" ∧ C = Z.a_BadTable ∧ f = "rung")
theorem err_BadLadder : ErrC Z "BadLadder" Z.a_BadLadder "rung" := .inl ⟨rfl, rfl, rfl⟩
theorem err_BadTable : ErrC Z "BadTable" Z.a_BadTable "rung" := .inr (⟨rfl, rfl, rfl⟩)
def sp_named (Z : Ad) : Value → Option Addr → Sp := fun cls d vs H Q _ => ∃ (a dd C : Addr) (nm f : Str) (v : V), vs = [.ref a] ∧ cls = .ref C ∧ d = some dd ∧ ErrC Z nm C f ∧ H dd = some (.xd [(f, v)]) ∧ ∀ p H', H p = none → Same H H' → H' p = some (.tup [.str nm, v]) → Q (.ref p) H'
theorem d_law_e_named (T : Txt K w mg Z) : DfnE P w K mg base 1 "_law_e_named" ["raised"] (sp_named Z) := by
  obtain ⟨f, fd, F, hm, hb⟩ := T.f_law_e_named
  refine ⟨f, fd, okE F sc_law_e_named rfl (fun cdv A outer s H Q a oe cls d hr hz hf h => ?_), hm, F.kp, hb⟩
  obtain ⟨a', dd, C, nm, f, v, e1, rfl, rfl, ec, hx, k⟩ := h
  cases e1
  rcases ec with ⟨rfl, rfl, rfl⟩ | ⟨rfl, rfl, rfl⟩
  · skip
    have xi := T.xi_BadLadder
    have xf := T.x_BadLadder
    refine ⟨_, (pss_cons (ps_set (i := 1) sc_law_e_named.nd rfl (.inl rfl) (pe_lst pa_nil))
      (pss_cons (ps_if (pt_uK (K := K) rfl (pe_callB (call_isX hz hf) (by rfl) T.b_isinstance bt_isinstance (pa_cons (pv 0) (pa_cons (pe_gr T.g_TooMany) pa_nil)))) (pss_one ps_never) pss_nil)
      (pss_cons (ps_if (pt_uK (K := K) rfl (pe_callB (call_isX hz hf) (by rfl) T.b_isinstance bt_isinstance (pa_cons (pv 0) (pa_cons (pe_gr T.g_BadLadder) pa_nil)))) (pss_one (ps_expr (pe_bm PySem.F.plainAttrs_list PySem.F.slot_list_append PySem.F.type_list_append mt_append (pv 1) (pa_cons (pe_tup (pa_cons pe_str (pa_cons (pe_xfA hz hf (pv 0)) pa_nil))) pa_nil)))) pss_nil)
      (pss_cons (ps_if (pt_uK (K := K) rfl (pe_callB (call_isX hz hf) (by rfl) T.b_isinstance bt_isinstance (pa_cons (pv 0) (pa_cons (pe_gr T.g_BadTable) pa_nil)))) (pss_one (ps_expr (pe_bm PySem.F.plainAttrs_list PySem.F.slot_list_append PySem.F.type_list_append mt_append (pv 1) (pa_cons (pe_tup (pa_cons pe_str (pa_cons (pe_xfA hz hf (pv 0)) pa_nil))) pa_nil)))) pss_nil)
      (pss_cons (ps_if (pt_uK (K := K) rfl (pe_callB (call_isX hz hf) (by rfl) T.b_isinstance bt_isinstance (pa_cons (pv 0) (pa_cons (pe_gr T.g_BadDemand) pa_nil)))) (pss_one ps_never) pss_nil)
      (pss_cons (ps_if (pt_uK (K := K) rfl (pe_callB (call_isX hz hf) (by rfl) T.b_isinstance bt_isinstance (pa_cons (pv 0) (pa_cons (pe_tup (pa_cons (pe_gr T.g_BadText) (pa_cons (pe_gr T.g_BadSeason) (pa_cons (pe_gr T.g_BadCode) (pa_cons (pe_gr T.g_BadEvent) (pa_cons (pe_gr T.g_BadFoe) (pa_cons (pe_gr T.g_BadPaper) (pa_cons (pe_gr T.g_BadDisk) (pa_cons (pe_gr T.g_BadDeed) pa_nil))))))))) pa_nil)))) (pss_one ps_never) pss_nil)
      (pss_one (ps_ret (pe_ifExp (PW.pt (pw_and (pt_cmpR (op_uEqK (K := K) rfl hr.units) (pe_callB (call_uLenK (K := K) rfl) (by rfl) T.b_len bt_len (pa_cons (pv 1) pa_nil)) pe_int (nomark _)) (pw_and1 (pt_uK (K := K) rfl (pe_callB (call_isX hz hf) (by rfl) T.b_isinstance bt_isinstance (pa_cons (pv 0) (pa_cons (pe_bltn (v := .ty "ValueError") (by rfl) T.b_ValueError bt_ValueError rfl) pa_nil))))))) (pe_ix (ix_seqK (K := K) rfl) (pv 1) pe_int (fun _ _ => rfl)) (pe_tup (pa_cons pe_str pa_nil))))))))))), ?_⟩
    try dsimp only [cxOf, Cx.nox, Cx.wish]
    show (_ : TS) _ [some _, none] _
    o_readsAll
    rename_i q0 H1 fq0 e1 hq0 N1 hN1
    have hx1 := e1 _ _ hx
    refine g_isx xi hx1 (.own _) T.ki_BadLadder_TooMany ?_
    o_readsAll
    refine g_isx xi hx1 (.own _) T.ki_BadLadder_BadLadder ?_
    o_readsAll
    refine g_xfA xf T.n_BadLadder_rung hx1 fld_hd ?_
    o_readsAll
    rename_i t1 H2 ft1 e2 ht1 N2 hN2
    have hq2 := e2 _ _ hq0
    have nt1 : t1 ≠ q0 := (ne_of_none hq0 ft1).symm
    have hdq : dd ≠ q0 := ne_of hx1 hq0 (by intro z; cases z)
    have hx2 : upd H2 q0 (.lst ([] ++ [V.ref t1])) dd = some (.xd [("rung", v)]) := by rw [upd_ne hdq]; exact e2 _ _ hx1
    refine g_isx xi hx2 (.own _) T.ki_BadLadder_BadTable ?_
    o_readsAll
    refine g_isx xi hx2 (.own _) T.ki_BadLadder_BadDemand ?_
    o_readsAll
    rename_i t2 H3 ft2 e3 ht2
    have hx3 : H3 dd = some (.xd [("rung", v)]) := e3 _ _ (by rw [upd_ne hdq]; exact e2 _ _ hx1)
    have ht3 : H3 t1 = some (.tup [.str "BadLadder", v]) := e3 _ _ (by rw [upd_ne nt1]; exact ht1)
    have f3 : H3 q0 = some (.lst [.ref t1]) := e3 _ _ upd_same
    have s3 : Same H H3 := (Eg.Same.put (e1.trans e2) fq0).trans e3
    have nf1 : H t1 = none := e1.free ft1
    refine g_isxT xi hx3 ht2 (.cons (.own _) (.cons (.own _) (.cons (.own _) (.cons (.own _) (.cons (.own _) (.cons (.own _) (.cons (.own _) (.cons (.own _) .nil)))))))) T.ka_BadLadder_0 ?_
    clear hq0 e1 e2 hq2 ht1
    o_readsAll
    refine brT (decide_eq_true rfl) ?_
    o_readsAll
    refine g_isx xi hx3 (.ty _) T.ki_BadLadder_ValueError ?_
    o_readsAll
    exact k _ _ nf1 s3 ht3
  · skip
    have xi := T.xi_BadTable
    have xf := T.x_BadTable
    refine ⟨_, (pss_cons (ps_set (i := 1) sc_law_e_named.nd rfl (.inl rfl) (pe_lst pa_nil))
      (pss_cons (ps_if (pt_uK (K := K) rfl (pe_callB (call_isX hz hf) (by rfl) T.b_isinstance bt_isinstance (pa_cons (pv 0) (pa_cons (pe_gr T.g_TooMany) pa_nil)))) (pss_one ps_never) pss_nil)
      (pss_cons (ps_if (pt_uK (K := K) rfl (pe_callB (call_isX hz hf) (by rfl) T.b_isinstance bt_isinstance (pa_cons (pv 0) (pa_cons (pe_gr T.g_BadLadder) pa_nil)))) (pss_one (ps_expr (pe_bm PySem.F.plainAttrs_list PySem.F.slot_list_append PySem.F.type_list_append mt_append (pv 1) (pa_cons (pe_tup (pa_cons pe_str (pa_cons (pe_xfA hz hf (pv 0)) pa_nil))) pa_nil)))) pss_nil)
      (pss_cons (ps_if (pt_uK (K := K) rfl (pe_callB (call_isX hz hf) (by rfl) T.b_isinstance bt_isinstance (pa_cons (pv 0) (pa_cons (pe_gr T.g_BadTable) pa_nil)))) (pss_one (ps_expr (pe_bm PySem.F.plainAttrs_list PySem.F.slot_list_append PySem.F.type_list_append mt_append (pv 1) (pa_cons (pe_tup (pa_cons pe_str (pa_cons (pe_xfA hz hf (pv 0)) pa_nil))) pa_nil)))) pss_nil)
      (pss_cons (ps_if (pt_uK (K := K) rfl (pe_callB (call_isX hz hf) (by rfl) T.b_isinstance bt_isinstance (pa_cons (pv 0) (pa_cons (pe_gr T.g_BadDemand) pa_nil)))) (pss_one ps_never) pss_nil)
      (pss_cons (ps_if (pt_uK (K := K) rfl (pe_callB (call_isX hz hf) (by rfl) T.b_isinstance bt_isinstance (pa_cons (pv 0) (pa_cons (pe_tup (pa_cons (pe_gr T.g_BadText) (pa_cons (pe_gr T.g_BadSeason) (pa_cons (pe_gr T.g_BadCode) (pa_cons (pe_gr T.g_BadEvent) (pa_cons (pe_gr T.g_BadFoe) (pa_cons (pe_gr T.g_BadPaper) (pa_cons (pe_gr T.g_BadDisk) (pa_cons (pe_gr T.g_BadDeed) pa_nil))))))))) pa_nil)))) (pss_one ps_never) pss_nil)
      (pss_one (ps_ret (pe_ifExp (PW.pt (pw_and (pt_cmpR (op_uEqK (K := K) rfl hr.units) (pe_callB (call_uLenK (K := K) rfl) (by rfl) T.b_len bt_len (pa_cons (pv 1) pa_nil)) pe_int (nomark _)) (pw_and1 (pt_uK (K := K) rfl (pe_callB (call_isX hz hf) (by rfl) T.b_isinstance bt_isinstance (pa_cons (pv 0) (pa_cons (pe_bltn (v := .ty "ValueError") (by rfl) T.b_ValueError bt_ValueError rfl) pa_nil))))))) (pe_ix (ix_seqK (K := K) rfl) (pv 1) pe_int (fun _ _ => rfl)) (pe_tup (pa_cons pe_str pa_nil))))))))))), ?_⟩
    try dsimp only [cxOf, Cx.nox, Cx.wish]
    show (_ : TS) _ [some _, none] _
    o_readsAll
    rename_i q0 H1 fq0 e1 hq0 N1 hN1
    have hx1 := e1 _ _ hx
    refine g_isx xi hx1 (.own _) T.ki_BadTable_TooMany ?_
    o_readsAll
    refine g_isx xi hx1 (.own _) T.ki_BadTable_BadLadder ?_
    o_readsAll
    refine g_isx xi hx1 (.own _) T.ki_BadTable_BadTable ?_
    o_readsAll
    refine g_xfA xf T.n_BadTable_rung hx1 fld_hd ?_
    o_readsAll
    rename_i t1 H2 ft1 e2 ht1 N2 hN2
    have hq2 := e2 _ _ hq0
    have nt1 : t1 ≠ q0 := (ne_of_none hq0 ft1).symm
    have hdq : dd ≠ q0 := ne_of hx1 hq0 (by intro z; cases z)
    have hx2 : upd H2 q0 (.lst ([] ++ [V.ref t1])) dd = some (.xd [("rung", v)]) := by rw [upd_ne hdq]; exact e2 _ _ hx1
    refine g_isx xi hx2 (.own _) T.ki_BadTable_BadDemand ?_
    o_readsAll
    rename_i t2 H3 ft2 e3 ht2
    have hx3 : H3 dd = some (.xd [("rung", v)]) := e3 _ _ (by rw [upd_ne hdq]; exact e2 _ _ hx1)
    have ht3 : H3 t1 = some (.tup [.str "BadTable", v]) := e3 _ _ (by rw [upd_ne nt1]; exact ht1)
    have f3 : H3 q0 = some (.lst [.ref t1]) := e3 _ _ upd_same
    have s3 : Same H H3 := (Eg.Same.put (e1.trans e2) fq0).trans e3
    have nf1 : H t1 = none := e1.free ft1
    refine g_isxT xi hx3 ht2 (.cons (.own _) (.cons (.own _) (.cons (.own _) (.cons (.own _) (.cons (.own _) (.cons (.own _) (.cons (.own _) (.cons (.own _) .nil)))))))) T.ka_BadTable_0 ?_
    clear hq0 e1 e2 hq2 ht1
    o_readsAll
    refine brT (decide_eq_true rfl) ?_
    o_readsAll
    refine g_isx xi hx3 (.ty _) T.ki_BadTable_ValueError ?_
    o_readsAll
    exact k _ _ nf1 s3 ht3
/-- the answer of a call, or its refusal -/
def sp_asked (Z : Ad) : (XK → Hp → VK → Prop) → Sp := fun tl vs H Q _ => vs = [] ∧ ∃ (Re : Str → V → Hp → Prop) (Ro : V → Hp → Prop), (∀ E1 Q1, (∀ nm C f d v H1, ErrC Z nm C f → H1 d = some (.xd [(f, v)]) → Re nm v H1 → E1 (.ref C) (some d) H1) → (∀ v H1, Ro v H1 → Q1 v H1) → tl E1 H Q1) ∧
  (∀ nm v H1, Re nm v H1 → ∀ p H2, H1 p = none → Same H1 H2 → H2 p = some (.tup [.str nm, v]) → Q (.ref p) H2) ∧ (∀ v H1, Ro v H1 → ∀ p H2, H1 p = none → Same H1 H2 → H2 p = some (.tup [.str "told", v]) → Q (.ref p) H2)
theorem c_named {cls : Value} {a dd C : Addr} {nm f : Str} {v : V} {H : Hp} {Q : VK} {E : XK} (e : cls = .ref C) (ec : ErrC Z nm C f) (h : H dd = some (.xd [(f, v)])) (k : ∀ p H', H p = none → Same H H' → H' p = some (.tup [.str nm, v]) → Q (.ref p) H') : sp_named Z cls (some dd) [.ref a] H Q E := ⟨a, dd, C, nm, f, v, rfl, e, rfl, ec, h, k⟩
theorem exm_wins (T : Txt K w mg Z) {nm f : Str} {C : Addr} (e : ErrC Z nm C f) : PySem.W.exmOne K (.ref C) (.ref Z.a_WinsError) = some true := by
  rcases e with ⟨-, rfl, -⟩ | ⟨-, rfl, -⟩
  · exact T.mm_BadLadder_WinsError
  · exact T.mm_BadTable_WinsError
theorem d_law_e_asked (T : Txt K w mg Z) : DfnL P w K mg base 10 9 "_law_e_asked" ["call"] (sp_asked Z) := by
  obtain ⟨f, fd, F, hm, hb⟩ := T.f_law_e_asked
  refine ⟨f, fd, okL F sc_law_e_asked (fun tl vs H Q E h => by first | (obtain ⟨rfl, _⟩ := h; rfl) | (obtain ⟨_, rfl, _⟩ := h; rfl) | (obtain ⟨_, _, rfl, _⟩ := h; rfl) | (obtain ⟨_, _, _, rfl, _⟩ := h; rfl) | (obtain ⟨_, _, _, _, rfl, _⟩ := h; rfl) | (obtain ⟨_, _, _, _, _, rfl, _⟩ := h; rfl) | (obtain ⟨_, _, _, _, _, _, rfl, _⟩ := h; rfl) | (obtain ⟨_, _, _, _, _, _, _, rfl, _⟩ := h; rfl) | (obtain ⟨_, _, _, _, _, _, _, _, rfl, _⟩ := h; rfl) | (obtain ⟨_, _, _, _, _, _, _, _, _, rfl, _⟩ := h; rfl) | (obtain ⟨_, _, _, _, _, _, _, _, _, _, rfl, _⟩ := h; rfl) | (obtain ⟨_, _, _, _, _, _, _, _, _, _, _, rfl, _⟩ := h; rfl) | (obtain ⟨_, _, _, _, _, _, _, _, _, _, _, _, rfl, _⟩ := h; rfl) | (obtain ⟨_, _, _, _, _, _, _, _, _, _, _, _, _, rfl, _⟩ := h; rfl) | (obtain ⟨_, _, _, _, _, _, _, _, _, _, _, _, _, _, rfl, _⟩ := h; rfl) | (obtain ⟨_, _, _, _, _, _, _, _, _, _, _, _, _, _, _, rfl, _⟩ := h; rfl) | (obtain ⟨_, _, _, _, _, _, _, _, _, _, _, _, _, _, _, _, rfl, _⟩ := h; rfl)) (fun cdv A outer s H vs Q f tl hr hL h => ?_), hm, F.kp, hb⟩
  obtain ⟨rfl, Re, Ro, k1, k2, k3⟩ := h
  have Q_law_e_named := d_law_e_named (P := P) (base := base) T
  refine ⟨_, (pss_cons (ps_try_as (i := 2) (Wout := fun _ _ _ _ => False) rfl rfl sc_law_e_asked.nd rfl rfl ⟨rfl, by decide, Or.inl T.g_WinsError⟩ takes0 (fun W pn xe tk _ => (pss_one (ps_set (i := 1) sc_law_e_asked.nd rfl (.inl rfl) (pe_lamc (i := 0) hL rfl (hr.mono (by decide)) tk)))) (fun a oe cls d pn hz hf => (pss_one (ps_ret (pe_dfnE (i := 2) Q_law_e_named (L2H.roomH_mark (hr.mono (by decide)) _) hz hf (by rfl))))))
      (pss_one (ps_ret (pe_tup (pa_cons pe_str (pa_cons (pv 1) pa_nil)))))), ?_⟩
  try dsimp only [cxOf, Cx.nox, Cx.wish]
  show (_ : TS) _ [some _, none, none] _
  o_readsAll
  refine k1 _ _ (fun nm C f' d v H1 ec hd re => ?_) (fun v H1 ro => ?_)
  · refine g_wAs (exm_wins T ec) fun a ha => ?_
    o_readsAll
    refine c_named rfl ec hd fun p H2 fp e2 hp => ?_
    exact k2 nm v H1 re p H2 fp e2 hp
  · o_readsAll
    exact k3 v H1 ro _ _ (by assumption) (by assumption) (by assumption)
/-- a call that is refused by just this error -/
def sp_refused (Z : Ad) : (XK → Hp → VK → Prop) → Sp := fun tl vs H Q _ => ∃ (due C : Addr) (nm f : Str) (v : V), vs = [.ref due] ∧ ErrC Z nm C f ∧ Flat v ∧ H due = some (.tup [.str nm, v]) ∧ (∀ E1 Q1, (∀ d H1, Same H H1 → H1 d = some (.xd [(f, v)]) → E1 (.ref C) (some d) H1) → tl E1 H Q1) ∧ ∀ H', Same H H' → Q (.bl true) H'
theorem c_asked {tl : XK → Hp → VK → Prop} {H : Hp} {Q : VK} {E : XK} (Re : Str → V → Hp → Prop) (Ro : V → Hp → Prop) (k1 : ∀ E1 Q1, (∀ nm C f d v H1, ErrC Z nm C f → H1 d = some (.xd [(f, v)]) → Re nm v H1 → E1 (.ref C) (some d) H1) → (∀ v H1, Ro v H1 → Q1 v H1) → tl E1 H Q1)
    (k2 : ∀ nm v H1, Re nm v H1 → ∀ p H2, H1 p = none → Same H1 H2 → H2 p = some (.tup [.str nm, v]) → Q (.ref p) H2) (k3 : ∀ v H1, Ro v H1 → ∀ p H2, H1 p = none → Same H1 H2 → H2 p = some (.tup [.str "told", v]) → Q (.ref p) H2) : sp_asked Z tl [] H Q E := ⟨rfl, Re, Ro, k1, k2, k3⟩
theorem nm_told {nm f : Str} {C : Addr} (e : ErrC Z nm C f) : nm ≠ ("told" : Str) := by
  rcases e with ⟨rfl, -, -⟩ | ⟨rfl, -, -⟩ <;> decide +kernel
theorem d_law_e_refused (T : Txt K w mg Z) : DfnL P w K mg base 11 9 "_law_e_refused" ["call", "due"] (sp_refused Z) := by
  obtain ⟨f, fd, F, hm, hb⟩ := T.f_law_e_refused
  refine ⟨f, fd, okL F sc_law_e_refused (fun tl vs H Q E h => by first | (obtain ⟨rfl, _⟩ := h; rfl) | (obtain ⟨_, rfl, _⟩ := h; rfl) | (obtain ⟨_, _, rfl, _⟩ := h; rfl) | (obtain ⟨_, _, _, rfl, _⟩ := h; rfl) | (obtain ⟨_, _, _, _, rfl, _⟩ := h; rfl) | (obtain ⟨_, _, _, _, _, rfl, _⟩ := h; rfl) | (obtain ⟨_, _, _, _, _, _, rfl, _⟩ := h; rfl) | (obtain ⟨_, _, _, _, _, _, _, rfl, _⟩ := h; rfl) | (obtain ⟨_, _, _, _, _, _, _, _, rfl, _⟩ := h; rfl) | (obtain ⟨_, _, _, _, _, _, _, _, _, rfl, _⟩ := h; rfl) | (obtain ⟨_, _, _, _, _, _, _, _, _, _, rfl, _⟩ := h; rfl) | (obtain ⟨_, _, _, _, _, _, _, _, _, _, _, rfl, _⟩ := h; rfl) | (obtain ⟨_, _, _, _, _, _, _, _, _, _, _, _, rfl, _⟩ := h; rfl) | (obtain ⟨_, _, _, _, _, _, _, _, _, _, _, _, _, rfl, _⟩ := h; rfl) | (obtain ⟨_, _, _, _, _, _, _, _, _, _, _, _, _, _, rfl, _⟩ := h; rfl) | (obtain ⟨_, _, _, _, _, _, _, _, _, _, _, _, _, _, _, rfl, _⟩ := h; rfl) | (obtain ⟨_, _, _, _, _, _, _, _, _, _, _, _, _, _, _, _, rfl, _⟩ := h; rfl)) (fun cdv A outer s H vs Q f tl hr hL h => ?_), hm, F.kp, hb⟩
  obtain ⟨due, C, nm, f', v, rfl, ec, fv, hdue, k1, k2⟩ := h
  have D_law_e_asked := d_law_e_asked (P := P) (base := base) T
  have D_law_matches := d_law_matches (P := P) (base := base) T
  refine ⟨_, (pss_cons (ps_set (i := 2) sc_law_e_refused.nd rfl (.inl rfl) (pe_fwd (i := 0) D_law_e_asked hL rfl rfl rfl (hr.mono (by decide)) (by rfl) pa_nil))
      (pss_one (ps_ret (pe_and (pe_cmpR (op_uNe hr.units) (pe_ix ix_seq (pv 2) pe_int (fun _ _ => rfl)) pe_str (nomark _)) (pe_one (pe_dfn (D_law_matches 2) (hr.mono (by decide)) (by rfl) (pa_cons (pv 2) (pa_cons (pv 1) pa_nil)))))))), ?_⟩
  try dsimp only [cxOf, Cx.nox, Cx.wish]
  show (_ : TS) _ [some _, some _, none] _
  o_readsAll
  refine c_asked (fun nm' v' H1 => nm' = nm ∧ v' = v ∧ Same H H1) (fun _ _ => False) (fun E1 Q1 h1 h2 => k1 E1 Q1 fun d H1 e1 hd => h1 nm C f' d v H1 ec hd ⟨rfl, rfl, e1⟩) (fun nm' v' H1 hre p H2 fp e2 hp => ?_) fun _ _ h => h.elim
  obtain ⟨rfl, rfl, e1⟩ := hre
  o_readsAll
  refine brT (by rw [decide_eq_false (nm_told ec)]; rfl) ?_
  o_readsAll
  refine c_mat (alk_tup (m := 0) hp (e2 _ _ (e1 _ _ hdue)) (by simp) (fun u hu => ?_)) fun H3 e3 => ?_
  · simp only [List.mem_cons, List.not_mem_nil, or_false] at hu
    rcases hu with rfl | rfl
    · trivial
    · exact fv
  · exact k2 _ ((e1.trans e2).trans e3)
/-- a call that is answered -/
def sp_let : (XK → Hp → VK → Prop) → Sp := fun tl vs H Q _ => vs = [] ∧ (∀ E1 Q1, (∀ v H1, Same H H1 → Q1 v H1) → tl E1 H Q1) ∧ ∀ H', Same H H' → Q (.bl true) H'
theorem d_law_e_let (T : Txt K w mg Z) : DfnL P w K mg base 11 9 "_law_e_let" ["call"] (sp_let) := by
  obtain ⟨f, fd, F, hm, hb⟩ := T.f_law_e_let
  refine ⟨f, fd, okL F sc_law_e_let (fun tl vs H Q E h => by first | (obtain ⟨rfl, _⟩ := h; rfl) | (obtain ⟨_, rfl, _⟩ := h; rfl) | (obtain ⟨_, _, rfl, _⟩ := h; rfl) | (obtain ⟨_, _, _, rfl, _⟩ := h; rfl) | (obtain ⟨_, _, _, _, rfl, _⟩ := h; rfl) | (obtain ⟨_, _, _, _, _, rfl, _⟩ := h; rfl) | (obtain ⟨_, _, _, _, _, _, rfl, _⟩ := h; rfl) | (obtain ⟨_, _, _, _, _, _, _, rfl, _⟩ := h; rfl) | (obtain ⟨_, _, _, _, _, _, _, _, rfl, _⟩ := h; rfl) | (obtain ⟨_, _, _, _, _, _, _, _, _, rfl, _⟩ := h; rfl) | (obtain ⟨_, _, _, _, _, _, _, _, _, _, rfl, _⟩ := h; rfl) | (obtain ⟨_, _, _, _, _, _, _, _, _, _, _, rfl, _⟩ := h; rfl) | (obtain ⟨_, _, _, _, _, _, _, _, _, _, _, _, rfl, _⟩ := h; rfl) | (obtain ⟨_, _, _, _, _, _, _, _, _, _, _, _, _, rfl, _⟩ := h; rfl) | (obtain ⟨_, _, _, _, _, _, _, _, _, _, _, _, _, _, rfl, _⟩ := h; rfl) | (obtain ⟨_, _, _, _, _, _, _, _, _, _, _, _, _, _, _, rfl, _⟩ := h; rfl) | (obtain ⟨_, _, _, _, _, _, _, _, _, _, _, _, _, _, _, _, rfl, _⟩ := h; rfl)) (fun cdv A outer s H vs Q f tl hr hL h => ?_), hm, F.kp, hb⟩
  obtain ⟨rfl, k1, k2⟩ := h
  have D_law_e_asked := d_law_e_asked (P := P) (base := base) T
  refine ⟨_, (pss_one (ps_ret (pe_cmpR (op_uEq hr.units) (pe_ix ix_seq (pe_fwd (i := 0) D_law_e_asked hL rfl rfl rfl (hr.mono (by decide)) (by rfl) pa_nil) pe_int (fun _ _ => rfl)) pe_str (nomark _)))), ?_⟩
  try dsimp only [cxOf, Cx.nox, Cx.wish]
  show (_ : TS) _ [some _] _
  o_readsAll
  refine c_asked (fun _ _ _ => False) (fun v' H1 => Same H H1) (fun E1 Q1 h1 h2 => k1 E1 Q1 fun v H1 e1 => h2 v H1 e1) (fun _ _ _ h => h.elim) fun v H1 e1 p H2 fp e2 hp => ?_
  o_readsAll
  exact k2 _ (e1.trans e2)
theorem c_refused {tl : XK → Hp → VK → Prop} {due C : Addr} {nm f : Str} {v : V} {H : Hp} {Q : VK} {E : XK} (ec : ErrC Z nm C f) (fv : Flat v) (hd : H due = some (.tup [.str nm, v])) (h : ∀ E1 Q1, (∀ d H1, Same H H1 → H1 d = some (.xd [(f, v)]) → E1 (.ref C) (some d) H1) → tl E1 H Q1) (k : ∀ H', Same H H' → Q (.bl true) H') : sp_refused Z tl [.ref due] H Q E := ⟨due, C, nm, f, v, rfl, ec, fv, hd, h, k⟩
theorem c_let {tl : XK → Hp → VK → Prop} {H : Hp} {Q : VK} {E : XK} (h : ∀ E1 Q1, (∀ v H1, Same H H1 → Q1 v H1) → tl E1 H Q1) (k : ∀ H', Same H H' → Q (.bl true) H') : sp_let tl [] H Q E := ⟨rfl, h, k⟩
end
end L25

namespace L25
set_option exponentiation.threshold 2000
open SX Ld
section
variable {P : Program} {w : World} {K : PySem.W.Frag} {mg : Str → Option Value} {base : Heap} {Z : Ad}
theorem cutV_upto (xs : List V) (m : Nat) (h : m ≤ xs.length) : cutV xs none (some (m : Int)) = xs.take m := by
  unfold cutV
  rw [HT.sIx_none, List.drop_zero, Nat.sub_zero, HT.sIx_nat, Nat.min_eq_left h]
theorem rng_upto {n m : Nat} {f : Nat → Int} (h : m ≤ n) : cutV (rng n f) none (some (m : Int)) = rng m f := by
  rw [cutV_upto _ _ (by rw [rng_len]; exact h)]
  apply List.ext_getElem?
  intro i
  by_cases hi : i < m
  · rw [List.getElem?_take_of_lt hi, rng_at hi, rng_at (by omega)]
  · rw [List.getElem?_eq_none (by rw [List.length_take]; omega), List.getElem?_eq_none (by rw [rng_len]; omega)]
theorem LadAt.ext {C : Addr} {H H' : Hp} {l : Addr} {L : Int} {n : Nat} {fs : Nat → Int} {ret : Bool} (h : LadAt C H l L n fs ret) (e : LamX.ExtN H H') : LadAt C H' l L n fs ret := by
  obtain ⟨dx, fl, lt, hl, wl, ps, a, b, c, d, f, g, i⟩ := h
  exact ⟨dx, fl, lt, hl, wl, ps, e _ _ a (fun _ z => nomatch z), e _ _ b (fun _ z => nomatch z), e _ _ c (fun _ z => nomatch z), d, fun j q hq => e _ _ (f j q hq) (fun _ z => nomatch z), e _ _ g (fun _ z => nomatch z), e _ _ i (fun _ z => nomatch z)⟩
/-- a refusal told by its number -/
abbrev RaiseI (C : Addr) (f : Str) (v : V) (H : Hp) (E : XK) : Prop := ∀ d H', H d = none → Same H H' → H' d = some (.xd [(f, v)]) → E (.ref C) (some d) H'
def sp_crung (C CB : Addr) : Sp := fun vs H Q E => ∃ (l : Addr) (a L : Int) (n : Nat) (fs : Nat → Int) (ret : Bool), vs = [.ref l, .int a] ∧ LadAt C H l L n fs ret ∧ (0 ≤ a → a < n → Q .non H) ∧ (¬ (0 ≤ a ∧ a < n) → RaiseI CB "rung" (.int a) H E)
theorem d_Ladder_check_rung (T : Txt K w mg Z) : MthX P w K mg base 3 Z.a_Ladder "check_rung" ["self", "rung"] (sp_crung Z.a_Ladder Z.a_BadLadder) := by
  obtain ⟨f, fd, F, hm, hb⟩ := T.f_Ladder_check_rung
  refine ⟨⟨f, fd, F.okX sc_Ladder_check_rung (fun vs H Q E h => by first | (obtain ⟨rfl, _⟩ := h; rfl) | (obtain ⟨_, rfl, _⟩ := h; rfl) | (obtain ⟨_, _, rfl, _⟩ := h; rfl) | (obtain ⟨_, _, _, rfl, _⟩ := h; rfl) | (obtain ⟨_, _, _, _, rfl, _⟩ := h; rfl) | (obtain ⟨_, _, _, _, _, rfl, _⟩ := h; rfl) | (obtain ⟨_, _, _, _, _, _, rfl, _⟩ := h; rfl) | (obtain ⟨_, _, _, _, _, _, _, rfl, _⟩ := h; rfl) | (obtain ⟨_, _, _, _, _, _, _, _, rfl, _⟩ := h; rfl) | (obtain ⟨_, _, _, _, _, _, _, _, _, rfl, _⟩ := h; rfl) | (obtain ⟨_, _, _, _, _, _, _, _, _, _, rfl, _⟩ := h; rfl) | (obtain ⟨_, _, _, _, _, _, _, _, _, _, _, rfl, _⟩ := h; rfl) | (obtain ⟨_, _, _, _, _, _, _, _, _, _, _, _, rfl, _⟩ := h; rfl) | (obtain ⟨_, _, _, _, _, _, _, _, _, _, _, _, _, rfl, _⟩ := h; rfl) | (obtain ⟨_, _, _, _, _, _, _, _, _, _, _, _, _, _, rfl, _⟩ := h; rfl) | (obtain ⟨_, _, _, _, _, _, _, _, _, _, _, _, _, _, _, rfl, _⟩ := h; rfl) | (obtain ⟨_, _, _, _, _, _, _, _, _, _, _, _, _, _, _, _, rfl, _⟩ := h; rfl)) (fun cdv A outer s H vs Q E hr h => ?_), hm, hb⟩, T.l_Ladder⟩
  obtain ⟨l, a, L, n, fs, ret, rfl, ⟨dx, fl, lt, hl, wl, ps, h1, h2, h3, h4, h5, h6, h7⟩, k1, k2⟩ := h
  unfold IL at h2
  have D_BadLadder_init := d_BadLadder_init (P := P) (base := base) T
  have l_Ladder := T.l_Ladder
  have n_Ladder_falls_list := T.n_Ladder_falls_list
  refine ⟨_, (pss_one (ps_if (pt_not (pt_chain op_le op_lt pe_int (pv 1) (pe_callB call_uLen (by rfl) T.b_len bt_len (pa_cons (pe_fld (pv 0) rfl) pa_nil)))) (pss_one (ps_rs (takes_of rfl rfl rfl rfl) (pmk_iex D_BadLadder_init (hr.mono (by decide)) (by rfl) (pa_cons (pv 1) pa_nil)) rfl)) pss_nil)), ?_⟩
  try dsimp only [cxOf, Cx.nox, Cx.wish]
  show (_ : TS) _ [some _, some _] _
  o_readsAll
  refine ⟨_, rfl, ?_⟩
  refine br (fun hh1 => ?_) (fun hh1 => ?_)
  · o_readsAll
    rw [rng_len]
    refine brn (fun hh2 => ?_) (fun hh2 => ?_)
    · o_readsAll
      refine c_raise fun d H1 fd e1 hd => ?_
      exact k2 (fun z => hh2 z.2) d H1 fd e1 hd
    · o_readsAll
      exact k1 hh1 hh2
  · o_readsAll
    refine c_raise fun d H1 fd e1 hd => ?_
    exact k2 (fun z => hh1 z.1) d H1 fd e1 hd
theorem c_crung {C CB l : Addr} {a L : Int} {n : Nat} {fs : Nat → Int} {ret : Bool} {H : Hp} {Q : VK} {E : XK} (h : LadAt C H l L n fs ret) (k1 : 0 ≤ a → a < n → Q .non H) (k2 : ¬ (0 ≤ a ∧ a < n) → RaiseI CB "rung" (.int a) H E) : sp_crung C CB [.ref l, .int a] H Q E := ⟨l, a, L, n, fs, ret, rfl, h, k1, k2⟩
def sp_cplc (C CB : Addr) : Sp := fun vs H Q E => ∃ (l : Addr) (a L : Int) (n : Nat) (fs : Nat → Int) (ret : Bool), vs = [.ref l, .int a] ∧ LadAt C H l L n fs ret ∧ (-1 ≤ a → a ≤ n → Q .non H) ∧ (¬ (-1 ≤ a ∧ a ≤ n) → RaiseI CB "rung" (.int a) H E)
theorem d_Ladder_check_place (T : Txt K w mg Z) : MthX P w K mg base 3 Z.a_Ladder "check_place" ["self", "place"] (sp_cplc Z.a_Ladder Z.a_BadLadder) := by
  obtain ⟨f, fd, F, hm, hb⟩ := T.f_Ladder_check_place
  refine ⟨⟨f, fd, F.okX sc_Ladder_check_place (fun vs H Q E h => by first | (obtain ⟨rfl, _⟩ := h; rfl) | (obtain ⟨_, rfl, _⟩ := h; rfl) | (obtain ⟨_, _, rfl, _⟩ := h; rfl) | (obtain ⟨_, _, _, rfl, _⟩ := h; rfl) | (obtain ⟨_, _, _, _, rfl, _⟩ := h; rfl) | (obtain ⟨_, _, _, _, _, rfl, _⟩ := h; rfl) | (obtain ⟨_, _, _, _, _, _, rfl, _⟩ := h; rfl) | (obtain ⟨_, _, _, _, _, _, _, rfl, _⟩ := h; rfl) | (obtain ⟨_, _, _, _, _, _, _, _, rfl, _⟩ := h; rfl) | (obtain ⟨_, _, _, _, _, _, _, _, _, rfl, _⟩ := h; rfl) | (obtain ⟨_, _, _, _, _, _, _, _, _, _, rfl, _⟩ := h; rfl) | (obtain ⟨_, _, _, _, _, _, _, _, _, _, _, rfl, _⟩ := h; rfl) | (obtain ⟨_, _, _, _, _, _, _, _, _, _, _, _, rfl, _⟩ := h; rfl) | (obtain ⟨_, _, _, _, _, _, _, _, _, _, _, _, _, rfl, _⟩ := h; rfl) | (obtain ⟨_, _, _, _, _, _, _, _, _, _, _, _, _, _, rfl, _⟩ := h; rfl) | (obtain ⟨_, _, _, _, _, _, _, _, _, _, _, _, _, _, _, rfl, _⟩ := h; rfl) | (obtain ⟨_, _, _, _, _, _, _, _, _, _, _, _, _, _, _, _, rfl, _⟩ := h; rfl)) (fun cdv A outer s H vs Q E hr h => ?_), hm, hb⟩, T.l_Ladder⟩
  obtain ⟨l, a, L, n, fs, ret, rfl, ⟨dx, fl, lt, hl, wl, ps, h1, h2, h3, h4, h5, h6, h7⟩, k1, k2⟩ := h
  unfold IL at h2
  have D_BadLadder_init := d_BadLadder_init (P := P) (base := base) T
  have l_Ladder := T.l_Ladder
  have n_Ladder_falls_list := T.n_Ladder_falls_list
  refine ⟨_, (pss_one (ps_if (pt_not (pt_chain op_le op_le (pe_gi T.c_OUT) (pv 1) (pe_callB call_uLen (by rfl) T.b_len bt_len (pa_cons (pe_fld (pv 0) rfl) pa_nil)))) (pss_one (ps_rs (takes_of rfl rfl rfl rfl) (pmk_iex D_BadLadder_init (hr.mono (by decide)) (by rfl) (pa_cons (pv 1) pa_nil)) rfl)) pss_nil)), ?_⟩
  try dsimp only [cxOf, Cx.nox, Cx.wish]
  show (_ : TS) _ [some _, some _] _
  o_readsAll
  refine ⟨_, rfl, ?_⟩
  refine br (fun hh1 => ?_) (fun hh1 => ?_)
  · o_readsAll
    rw [rng_len]
    refine brn (fun hh2 => ?_) (fun hh2 => ?_)
    · o_readsAll
      refine c_raise fun d H1 fd e1 hd => ?_
      exact k2 (fun z => hh2 z.2) d H1 fd e1 hd
    · o_readsAll
      exact k1 hh1 hh2
  · o_readsAll
    refine c_raise fun d H1 fd e1 hd => ?_
    exact k2 (fun z => hh1 z.1) d H1 fd e1 hd
theorem c_cplc {C CB l : Addr} {a L : Int} {n : Nat} {fs : Nat → Int} {ret : Bool} {H : Hp} {Q : VK} {E : XK} (h : LadAt C H l L n fs ret) (k1 : -1 ≤ a → a ≤ n → Q .non H) (k2 : ¬ (-1 ≤ a ∧ a ≤ n) → RaiseI CB "rung" (.int a) H E) : sp_cplc C CB [.ref l, .int a] H Q E := ⟨l, a, L, n, fs, ret, rfl, h, k1, k2⟩
def sp_lfalls (C : Addr) : Sp := fun vs H Q _ => ∃ (l : Addr) (L : Int) (n : Nat) (fs : Nat → Int) (ret : Bool), vs = [.ref l] ∧ LadAt C H l L n fs ret ∧ ∀ p H', H p = none → Same H H' → IL H' p n fs → Q (.ref p) H'
theorem d_Ladder_falls (T : Txt K w mg Z) : Mth P w K mg base 1 Z.a_Ladder "falls" ["self"] (sp_lfalls Z.a_Ladder) := by
  obtain ⟨f, fd, F, hm, hb⟩ := T.f_Ladder_falls
  refine ⟨⟨f, fd, F.ok sc_Ladder_falls (fun vs H Q E h => by first | (obtain ⟨rfl, _⟩ := h; rfl) | (obtain ⟨_, rfl, _⟩ := h; rfl) | (obtain ⟨_, _, rfl, _⟩ := h; rfl) | (obtain ⟨_, _, _, rfl, _⟩ := h; rfl) | (obtain ⟨_, _, _, _, rfl, _⟩ := h; rfl) | (obtain ⟨_, _, _, _, _, rfl, _⟩ := h; rfl) | (obtain ⟨_, _, _, _, _, _, rfl, _⟩ := h; rfl) | (obtain ⟨_, _, _, _, _, _, _, rfl, _⟩ := h; rfl) | (obtain ⟨_, _, _, _, _, _, _, _, rfl, _⟩ := h; rfl) | (obtain ⟨_, _, _, _, _, _, _, _, _, rfl, _⟩ := h; rfl) | (obtain ⟨_, _, _, _, _, _, _, _, _, _, rfl, _⟩ := h; rfl) | (obtain ⟨_, _, _, _, _, _, _, _, _, _, _, rfl, _⟩ := h; rfl) | (obtain ⟨_, _, _, _, _, _, _, _, _, _, _, _, rfl, _⟩ := h; rfl) | (obtain ⟨_, _, _, _, _, _, _, _, _, _, _, _, _, rfl, _⟩ := h; rfl) | (obtain ⟨_, _, _, _, _, _, _, _, _, _, _, _, _, _, rfl, _⟩ := h; rfl) | (obtain ⟨_, _, _, _, _, _, _, _, _, _, _, _, _, _, _, rfl, _⟩ := h; rfl) | (obtain ⟨_, _, _, _, _, _, _, _, _, _, _, _, _, _, _, _, rfl, _⟩ := h; rfl)) (fun cdv A outer s H vs Q E hr h => ?_), hm, hb⟩, T.l_Ladder⟩
  obtain ⟨l, L, n, fs, ret, rfl, ⟨dx, fl, lt, hl, wl, ps, h1, h2, h3, h4, h5, h6, h7⟩, k⟩ := h
  unfold IL at h2
  have l_Ladder := T.l_Ladder
  have n_Ladder_falls_list := T.n_Ladder_falls_list
  refine ⟨_, (pss_one (ps_ret (pe_callTy call_uList (by rfl) T.b_list bt_list (pa_cons (pe_fld (pv 0) rfl) pa_nil)))), ?_⟩
  try dsimp only [cxOf, Cx.nox, Cx.wish]
  show (_ : TS) _ [some _] _
  o_readsAll
  exact k _ _ (by assumption) (by assumption) (by assumption)
theorem c_lfalls {C l : Addr} {L : Int} {n : Nat} {fs : Nat → Int} {ret : Bool} {H : Hp} {Q : VK} {E : XK} (h : LadAt C H l L n fs ret) (k : ∀ p H', H p = none → Same H H' → IL H' p n fs → Q (.ref p) H') : sp_lfalls C [.ref l] H Q E := ⟨l, L, n, fs, ret, rfl, h, k⟩
def sp_lfall (C CB : Addr) : Sp := fun vs H Q E => ∃ (l : Addr) (a L : Int) (n : Nat) (fs : Nat → Int) (ret : Bool), vs = [.ref l, .int a] ∧ LadAt C H l L n fs ret ∧ (∀ a' : Nat, a = a' → a' < n → Q (.int (fs a')) H) ∧ (¬ (0 ≤ a ∧ a < n) → RaiseI CB "rung" (.int a) H E)
theorem d_Ladder_fall (T : Txt K w mg Z) : MthX P w K mg base 4 Z.a_Ladder "fall" ["self", "a"] (sp_lfall Z.a_Ladder Z.a_BadLadder) := by
  obtain ⟨f, fd, F, hm, hb⟩ := T.f_Ladder_fall
  refine ⟨⟨f, fd, F.okX sc_Ladder_fall (fun vs H Q E h => by first | (obtain ⟨rfl, _⟩ := h; rfl) | (obtain ⟨_, rfl, _⟩ := h; rfl) | (obtain ⟨_, _, rfl, _⟩ := h; rfl) | (obtain ⟨_, _, _, rfl, _⟩ := h; rfl) | (obtain ⟨_, _, _, _, rfl, _⟩ := h; rfl) | (obtain ⟨_, _, _, _, _, rfl, _⟩ := h; rfl) | (obtain ⟨_, _, _, _, _, _, rfl, _⟩ := h; rfl) | (obtain ⟨_, _, _, _, _, _, _, rfl, _⟩ := h; rfl) | (obtain ⟨_, _, _, _, _, _, _, _, rfl, _⟩ := h; rfl) | (obtain ⟨_, _, _, _, _, _, _, _, _, rfl, _⟩ := h; rfl) | (obtain ⟨_, _, _, _, _, _, _, _, _, _, rfl, _⟩ := h; rfl) | (obtain ⟨_, _, _, _, _, _, _, _, _, _, _, rfl, _⟩ := h; rfl) | (obtain ⟨_, _, _, _, _, _, _, _, _, _, _, _, rfl, _⟩ := h; rfl) | (obtain ⟨_, _, _, _, _, _, _, _, _, _, _, _, _, rfl, _⟩ := h; rfl) | (obtain ⟨_, _, _, _, _, _, _, _, _, _, _, _, _, _, rfl, _⟩ := h; rfl) | (obtain ⟨_, _, _, _, _, _, _, _, _, _, _, _, _, _, _, rfl, _⟩ := h; rfl) | (obtain ⟨_, _, _, _, _, _, _, _, _, _, _, _, _, _, _, _, rfl, _⟩ := h; rfl)) (fun cdv A outer s H vs Q E hr h => ?_), hm, hb⟩, T.l_Ladder⟩
  obtain ⟨l, a, L, n, fs, ret, rfl, hL, k1, k2⟩ := h
  have hL' := hL
  obtain ⟨dx, fl, lt, hl, wl, ps, h1, h2, h3, h4, h5, h6, h7⟩ := hL'
  have D_Ladder_check_rung := d_Ladder_check_rung (P := P) (base := base) T
  have l_Ladder := T.l_Ladder
  have n_Ladder_falls_list := T.n_Ladder_falls_list
  refine ⟨_, (pss_cons (ps_expr (pe_mthS D_Ladder_check_rung (hr.mono (by decide)) (takes_of rfl rfl rfl rfl) (pv 0) (pa_cons (pv 1) pa_nil)))
      (pss_one (ps_ret (pe_ix ix_seq (pe_fld (pv 0) rfl) (pv 1) (fun _ _ => rfl))))), ?_⟩
  try dsimp only [cxOf, Cx.nox, Cx.wish]
  show (_ : TS) _ [some _, some _] _
  o_readsAll
  refine c_crung hL (fun a0 a1 => ?_) k2
  obtain ⟨a, rfl⟩ : ∃ a' : Nat, a = a' := ⟨a.toNat, by omega⟩
  o_readsAll
  refine g_ixL h2.sq (atI_nat (rng_at (by omega))) ?_
  exact k1 a rfl (by omega)
theorem c_lfall {C CB l : Addr} {a : Nat} {L : Int} {n : Nat} {fs : Nat → Int} {ret : Bool} {H : Hp} {Q : VK} {E : XK} (h : LadAt C H l L n fs ret) (ha : a < n) (k : Q (.int (fs a)) H) : sp_lfall C CB [.ref l, .int (a : Int)] H Q E := ⟨l, a, L, n, fs, ret, rfl, h, fun a' e _ => (show a = a' by omega) ▸ k, fun h => absurd ⟨by omega, by omega⟩ h⟩
def sp_lval (C CB : Addr) (v : Int → (Nat → Int) → Nat → Int) : Sp := fun vs H Q E => ∃ (l : Addr) (b L : Int) (n : Nat) (fs : Nat → Int) (ret : Bool), vs = [.ref l, .int b] ∧ LadAt C H l L n fs ret ∧ (b = -1 → Q (.int 0) H) ∧ (∀ b' : Nat, b = b' → b' ≤ n → Q (.int (v L fs b')) H) ∧ (¬ (-1 ≤ b ∧ b ≤ n) → RaiseI CB "rung" (.int b) H E)
theorem d_Ladder_heads (T : Txt K w mg Z) : MthX P w K mg base 4 Z.a_Ladder "heads" ["self", "b"] (sp_lval Z.a_Ladder Z.a_BadLadder hd) := by
  obtain ⟨f, fd, F, hm, hb⟩ := T.f_Ladder_heads
  refine ⟨⟨f, fd, F.okX sc_Ladder_heads (fun vs H Q E h => by first | (obtain ⟨rfl, _⟩ := h; rfl) | (obtain ⟨_, rfl, _⟩ := h; rfl) | (obtain ⟨_, _, rfl, _⟩ := h; rfl) | (obtain ⟨_, _, _, rfl, _⟩ := h; rfl) | (obtain ⟨_, _, _, _, rfl, _⟩ := h; rfl) | (obtain ⟨_, _, _, _, _, rfl, _⟩ := h; rfl) | (obtain ⟨_, _, _, _, _, _, rfl, _⟩ := h; rfl) | (obtain ⟨_, _, _, _, _, _, _, rfl, _⟩ := h; rfl) | (obtain ⟨_, _, _, _, _, _, _, _, rfl, _⟩ := h; rfl) | (obtain ⟨_, _, _, _, _, _, _, _, _, rfl, _⟩ := h; rfl) | (obtain ⟨_, _, _, _, _, _, _, _, _, _, rfl, _⟩ := h; rfl) | (obtain ⟨_, _, _, _, _, _, _, _, _, _, _, rfl, _⟩ := h; rfl) | (obtain ⟨_, _, _, _, _, _, _, _, _, _, _, _, rfl, _⟩ := h; rfl) | (obtain ⟨_, _, _, _, _, _, _, _, _, _, _, _, _, rfl, _⟩ := h; rfl) | (obtain ⟨_, _, _, _, _, _, _, _, _, _, _, _, _, _, rfl, _⟩ := h; rfl) | (obtain ⟨_, _, _, _, _, _, _, _, _, _, _, _, _, _, _, rfl, _⟩ := h; rfl) | (obtain ⟨_, _, _, _, _, _, _, _, _, _, _, _, _, _, _, _, rfl, _⟩ := h; rfl)) (fun cdv A outer s H vs Q E hr h => ?_), hm, hb⟩, T.l_Ladder⟩
  obtain ⟨l, b, L, n, fs, ret, rfl, hL, k1, k2, k3⟩ := h
  have hL' := hL
  obtain ⟨dx, fl, lt, hl, wl, ps, h1, h2, h3, h4, h5, h6, h7⟩ := hL'
  have D_Ladder_check_place := d_Ladder_check_place (P := P) (base := base) T
  have l_Ladder := T.l_Ladder
  have n_Ladder_heads_list := T.n_Ladder_heads_list
  refine ⟨_, (pss_cons (ps_expr (pe_mthS D_Ladder_check_place (hr.mono (by decide)) (takes_of rfl rfl rfl rfl) (pv 0) (pa_cons (pv 1) pa_nil)))
      (pss_one (ps_ret (pe_ifExp (pt_cmpR (op_uEq hr.units) (pv 1) (pe_gi T.c_OUT) (nomark _)) pe_int (pe_ix ix_seq (pe_fld (pv 0) rfl) (pv 1) (fun _ _ => rfl)))))), ?_⟩
  try dsimp only [cxOf, Cx.nox, Cx.wish]
  show (_ : TS) _ [some _, some _] _
  o_readsAll
  refine c_cplc hL (fun a0 a1 => ?_) k3
  o_readsAll
  refine br (fun hb => ?_) (fun hb => ?_)
  · o_readsAll
    exact k1 hb
  · o_readsAll
    obtain ⟨b, rfl⟩ : ∃ a' : Nat, b = a' := ⟨b.toNat, by omega⟩
    refine g_ixL h6.sq (atI_nat (rng_at (by omega))) ?_
    exact k2 b rfl (by omega)
theorem d_Ladder_worth (T : Txt K w mg Z) : MthX P w K mg base 4 Z.a_Ladder "worth" ["self", "b"] (sp_lval Z.a_Ladder Z.a_BadLadder wd) := by
  obtain ⟨f, fd, F, hm, hb⟩ := T.f_Ladder_worth
  refine ⟨⟨f, fd, F.okX sc_Ladder_worth (fun vs H Q E h => by first | (obtain ⟨rfl, _⟩ := h; rfl) | (obtain ⟨_, rfl, _⟩ := h; rfl) | (obtain ⟨_, _, rfl, _⟩ := h; rfl) | (obtain ⟨_, _, _, rfl, _⟩ := h; rfl) | (obtain ⟨_, _, _, _, rfl, _⟩ := h; rfl) | (obtain ⟨_, _, _, _, _, rfl, _⟩ := h; rfl) | (obtain ⟨_, _, _, _, _, _, rfl, _⟩ := h; rfl) | (obtain ⟨_, _, _, _, _, _, _, rfl, _⟩ := h; rfl) | (obtain ⟨_, _, _, _, _, _, _, _, rfl, _⟩ := h; rfl) | (obtain ⟨_, _, _, _, _, _, _, _, _, rfl, _⟩ := h; rfl) | (obtain ⟨_, _, _, _, _, _, _, _, _, _, rfl, _⟩ := h; rfl) | (obtain ⟨_, _, _, _, _, _, _, _, _, _, _, rfl, _⟩ := h; rfl) | (obtain ⟨_, _, _, _, _, _, _, _, _, _, _, _, rfl, _⟩ := h; rfl) | (obtain ⟨_, _, _, _, _, _, _, _, _, _, _, _, _, rfl, _⟩ := h; rfl) | (obtain ⟨_, _, _, _, _, _, _, _, _, _, _, _, _, _, rfl, _⟩ := h; rfl) | (obtain ⟨_, _, _, _, _, _, _, _, _, _, _, _, _, _, _, rfl, _⟩ := h; rfl) | (obtain ⟨_, _, _, _, _, _, _, _, _, _, _, _, _, _, _, _, rfl, _⟩ := h; rfl)) (fun cdv A outer s H vs Q E hr h => ?_), hm, hb⟩, T.l_Ladder⟩
  obtain ⟨l, b, L, n, fs, ret, rfl, hL, k1, k2, k3⟩ := h
  have hL' := hL
  obtain ⟨dx, fl, lt, hl, wl, ps, h1, h2, h3, h4, h5, h6, h7⟩ := hL'
  have D_Ladder_check_place := d_Ladder_check_place (P := P) (base := base) T
  have l_Ladder := T.l_Ladder
  have n_Ladder_worths_list := T.n_Ladder_worths_list
  refine ⟨_, (pss_cons (ps_expr (pe_mthS D_Ladder_check_place (hr.mono (by decide)) (takes_of rfl rfl rfl rfl) (pv 0) (pa_cons (pv 1) pa_nil)))
      (pss_one (ps_ret (pe_ifExp (pt_cmpR (op_uEq hr.units) (pv 1) (pe_gi T.c_OUT) (nomark _)) pe_int (pe_ix ix_seq (pe_fld (pv 0) rfl) (pv 1) (fun _ _ => rfl)))))), ?_⟩
  try dsimp only [cxOf, Cx.nox, Cx.wish]
  show (_ : TS) _ [some _, some _] _
  o_readsAll
  refine c_cplc hL (fun a0 a1 => ?_) k3
  o_readsAll
  refine br (fun hb => ?_) (fun hb => ?_)
  · o_readsAll
    exact k1 hb
  · o_readsAll
    obtain ⟨b, rfl⟩ : ∃ a' : Nat, b = a' := ⟨b.toNat, by omega⟩
    refine g_ixL h7.sq (atI_nat (rng_at (by omega))) ?_
    exact k2 b rfl (by omega)
theorem c_lval {C CB l : Addr} {b : Nat} {L : Int} {n : Nat} {fs : Nat → Int} {ret : Bool} {v : Int → (Nat → Int) → Nat → Int} {H : Hp} {Q : VK} {E : XK} (h : LadAt C H l L n fs ret) (hb : b ≤ n) (k : Q (.int (v L fs b)) H) : sp_lval C CB v [.ref l, .int (b : Int)] H Q E := ⟨l, b, L, n, fs, ret, rfl, h, fun h => absurd h (by omega), fun b' e _ => (show b = b' by omega) ▸ k, fun h => absurd ⟨by omega, by omega⟩ h⟩
def sp_lload (C CB : Addr) : Sp := fun vs H Q E => ∃ (l : Addr) (a b L : Int) (n : Nat) (fs : Nat → Int) (ret : Bool), vs = [.ref l, .int a, .int b] ∧ LadAt C H l L n fs ret ∧ (0 ≤ a → a < n → b = -1 → Q (.int 0) H) ∧ (∀ a' b' : Nat, a = a' → b = b' → a' < n → b' ≤ n → Q (.int (ld L fs a' b')) H) ∧ (¬ (0 ≤ a ∧ a < n) → RaiseI CB "rung" (.int a) H E) ∧ (0 ≤ a → a < n → ¬ (-1 ≤ b ∧ b ≤ n) → RaiseI CB "rung" (.int b) H E)
theorem d_Ladder_load (T : Txt K w mg Z) : MthX P w K mg base 4 Z.a_Ladder "load" ["self", "a", "b"] (sp_lload Z.a_Ladder Z.a_BadLadder) := by
  obtain ⟨f, fd, F, hm, hb⟩ := T.f_Ladder_load
  refine ⟨⟨f, fd, F.okX sc_Ladder_load (fun vs H Q E h => by first | (obtain ⟨rfl, _⟩ := h; rfl) | (obtain ⟨_, rfl, _⟩ := h; rfl) | (obtain ⟨_, _, rfl, _⟩ := h; rfl) | (obtain ⟨_, _, _, rfl, _⟩ := h; rfl) | (obtain ⟨_, _, _, _, rfl, _⟩ := h; rfl) | (obtain ⟨_, _, _, _, _, rfl, _⟩ := h; rfl) | (obtain ⟨_, _, _, _, _, _, rfl, _⟩ := h; rfl) | (obtain ⟨_, _, _, _, _, _, _, rfl, _⟩ := h; rfl) | (obtain ⟨_, _, _, _, _, _, _, _, rfl, _⟩ := h; rfl) | (obtain ⟨_, _, _, _, _, _, _, _, _, rfl, _⟩ := h; rfl) | (obtain ⟨_, _, _, _, _, _, _, _, _, _, rfl, _⟩ := h; rfl) | (obtain ⟨_, _, _, _, _, _, _, _, _, _, _, rfl, _⟩ := h; rfl) | (obtain ⟨_, _, _, _, _, _, _, _, _, _, _, _, rfl, _⟩ := h; rfl) | (obtain ⟨_, _, _, _, _, _, _, _, _, _, _, _, _, rfl, _⟩ := h; rfl) | (obtain ⟨_, _, _, _, _, _, _, _, _, _, _, _, _, _, rfl, _⟩ := h; rfl) | (obtain ⟨_, _, _, _, _, _, _, _, _, _, _, _, _, _, _, rfl, _⟩ := h; rfl) | (obtain ⟨_, _, _, _, _, _, _, _, _, _, _, _, _, _, _, _, rfl, _⟩ := h; rfl)) (fun cdv A outer s H vs Q E hr h => ?_), hm, hb⟩, T.l_Ladder⟩
  obtain ⟨l, a, b, L, n, fs, ret, rfl, hL, k1, k2, k3, k4⟩ := h
  have hL' := hL
  obtain ⟨dx, fl, lt, hl, wl, ps, h1, h2, h3, h4, h5, h6, h7⟩ := hL'
  have D_Ladder_check_rung := d_Ladder_check_rung (P := P) (base := base) T
  have D_Ladder_check_place := d_Ladder_check_place (P := P) (base := base) T
  have l_Ladder := T.l_Ladder
  have n_Ladder_loads_table := T.n_Ladder_loads_table
  refine ⟨_, (pss_cons (ps_expr (pe_mthS D_Ladder_check_rung (hr.mono (by decide)) (takes_of rfl rfl rfl rfl) (pv 0) (pa_cons (pv 1) pa_nil)))
      (pss_cons (ps_expr (pe_mthS D_Ladder_check_place (hr.mono (by decide)) (takes_of rfl rfl rfl rfl) (pv 0) (pa_cons (pv 2) pa_nil)))
      (pss_one (ps_ret (pe_ifExp (pt_cmpR (op_uEq hr.units) (pv 2) (pe_gi T.c_OUT) (nomark _)) pe_int (pe_ix ix_seq (pe_ix ix_seq (pe_fld (pv 0) rfl) (pv 1) (fun _ _ => rfl)) (pv 2) (fun _ _ => rfl))))))), ?_⟩
  try dsimp only [cxOf, Cx.nox, Cx.wish]
  show (_ : TS) _ [some _, some _, some _] _
  o_readsAll
  refine c_crung hL (fun a0 a1 => ?_) k3
  o_readsAll
  refine c_cplc hL (fun b0 b1 => ?_) (k4 a0 a1)
  o_readsAll
  refine br (fun hb => ?_) (fun hb => ?_)
  · o_readsAll
    exact k1 a0 a1 hb
  · o_readsAll
    obtain ⟨b, rfl⟩ : ∃ a' : Nat, b = a' := ⟨b.toNat, by omega⟩
    obtain ⟨a, rfl⟩ : ∃ a' : Nat, a = a' := ⟨a.toNat, by omega⟩
    have ha : ps[a]? = some (ps[a]'(by omega)) := List.getElem?_eq_getElem _
    generalize ps[a]'(by omega) = q at ha
    have hq := h5 a q ha
    refine g_ixL (.of h3) (atI_nat (by rw [List.getElem?_map, ha]; rfl)) ?_
    o_readsAll
    refine g_ixL hq.sq (atI_nat (rng_at (by omega))) ?_
    exact k2 a b rfl rfl (by omega) (by omega)
theorem c_lload {C CB l : Addr} {a b : Nat} {L : Int} {n : Nat} {fs : Nat → Int} {ret : Bool} {H : Hp} {Q : VK} {E : XK} (h : LadAt C H l L n fs ret) (ha : a < n) (hb : b ≤ n) (k : Q (.int (ld L fs a b)) H) : sp_lload C CB [.ref l, .int (a : Int), .int (b : Int)] H Q E := ⟨l, a, b, L, n, fs, ret, rfl, h, fun _ _ h => absurd h (by omega), fun a' b' e1 e2 _ _ => (show a = a' by omega) ▸ (show b = b' by omega) ▸ k, fun h => absurd ⟨by omega, by omega⟩ h, fun _ _ h => absurd ⟨by omega, by omega⟩ h⟩
def sp_lcut (C CB : Addr) : Sp := fun vs H Q E => ∃ (l : Addr) (a L : Int) (n : Nat) (fs : Nat → Int) (ret : Bool), vs = [.ref l, .int a] ∧ LadAt C H l L n fs ret ∧ 2 ≤ L ∧ L ≤ 6 ∧ n ≤ 40 ∧ OkF fs ∧ (∀ a' : Nat, a = a' → 1 ≤ a' → a' ≤ n → ∀ l' H', H l' = none → Same H H' → LadFr C H H' l' L a' fs false → Q (.ref l') H') ∧ (¬ (1 ≤ a ∧ a ≤ n) → RaiseI CB "rung" (.int a) H E)
theorem c_lcut {C CB l : Addr} {a : Nat} {L : Int} {n : Nat} {fs : Nat → Int} {ret : Bool} {H : Hp} {Q : VK} {E : XK} (h : LadAt C H l L n fs ret) (l2 : 2 ≤ L) (l6 : L ≤ 6) (n40 : n ≤ 40) (ok : OkF fs) (a1 : 1 ≤ a) (an : a ≤ n) (k : ∀ l' H', H l' = none → Same H H' → LadFr C H H' l' L a fs false → Q (.ref l') H') : sp_lcut C CB [.ref l, .int (a : Int)] H Q E := ⟨l, a, L, n, fs, ret, rfl, h, l2, l6, n40, ok, fun a' e _ _ => (show a = a' by omega) ▸ k, fun h => absurd ⟨by omega, by omega⟩ h⟩
end
end L25

namespace L25
set_option exponentiation.threshold 2000
open SX Ld
section
variable {P : Program} {w : World} {K : PySem.W.Frag} {mg : Str → Option Value} {base : Heap} {Z : Ad}
theorem ixN_at {n j : Nat} (h : j < n) : ixN n (j : Int) = some j := by
  unfold ixN
  rw [if_pos (by omega), if_pos (by omega), Int.toNat_natCast]
theorem rng_set (n j : Nat) (f : Nat → Int) (x : Int) : (rng n f).set j (.int x) = rng n (fun i => if i = j then x else f i) := by
  apply List.ext_getElem?
  intro i
  rw [List.getElem?_set]
  by_cases hi : i < n
  · rw [rng_at hi]
    by_cases h : j = i
    · subst h
      rw [if_pos rfl, if_pos (by rw [rng_len]; exact hi), rng_at hi, if_pos rfl]
    · rw [if_neg h, rng_at hi, if_neg (fun z => h z.symm)]
  · rw [List.getElem?_eq_none (by rw [rng_len]; omega), List.getElem?_eq_none (by rw [rng_len]; omega)]
    by_cases h : j = i
    · rw [if_pos h, if_neg (by rw [rng_len]; omega)]
    · rw [if_neg h]
/-- a table that is right, its ladder too -/
structure TOk (L : Int) (n : Nat) (fs cs : Nat → Int) : Prop where
  l2 : 2 ≤ L
  l6 : L ≤ 6
  n0 : 0 < n
  n40 : n ≤ 40
  ok : OkF fs
  c0 : ∀ i, i < n → 0 ≤ cs i
  cb : ∀ i, i < n → (cs i).natAbs < 2 ^ 220
theorem wd_bd {L : Int} {fs : Nat → Int} (ok : OkF fs) (h1 : 0 ≤ L) (h2 : L ≤ 6) (b : Nat) (hb : b ≤ 41) : (wd L fs b).natAbs < 2 ^ 150 :=
  Nat.lt_of_le_of_lt (gv_bd ok h1 h2 (by decide) (fun i => by decide) b) (Nat.lt_of_le_of_lt (pow12 hb) (by decide))
def sp_lsame (C : Addr) : Sp := fun vs H Q _ => ∃ (x y : Addr) (L : Int) (n : Nat) (fs : Nat → Int) (r : Bool), vs = [.ref x, .ref y] ∧ LadAt C H x L n fs r ∧ LadAt C H y L n fs r ∧ ∀ H', Same H H' → Q (.bl true) H'
theorem d_Ladder_same_as (T : Txt K w mg Z) : Mth P w K mg base 2 Z.a_Ladder "same_as" ["self", "other"] (sp_lsame Z.a_Ladder) := by
  obtain ⟨f, fd, F, hm, hb⟩ := T.f_Ladder_same_as
  refine ⟨⟨f, fd, F.ok sc_Ladder_same_as (fun vs H Q E h => by first | (obtain ⟨rfl, _⟩ := h; rfl) | (obtain ⟨_, rfl, _⟩ := h; rfl) | (obtain ⟨_, _, rfl, _⟩ := h; rfl) | (obtain ⟨_, _, _, rfl, _⟩ := h; rfl) | (obtain ⟨_, _, _, _, rfl, _⟩ := h; rfl) | (obtain ⟨_, _, _, _, _, rfl, _⟩ := h; rfl) | (obtain ⟨_, _, _, _, _, _, rfl, _⟩ := h; rfl) | (obtain ⟨_, _, _, _, _, _, _, rfl, _⟩ := h; rfl) | (obtain ⟨_, _, _, _, _, _, _, _, rfl, _⟩ := h; rfl) | (obtain ⟨_, _, _, _, _, _, _, _, _, rfl, _⟩ := h; rfl) | (obtain ⟨_, _, _, _, _, _, _, _, _, _, rfl, _⟩ := h; rfl) | (obtain ⟨_, _, _, _, _, _, _, _, _, _, _, rfl, _⟩ := h; rfl) | (obtain ⟨_, _, _, _, _, _, _, _, _, _, _, _, rfl, _⟩ := h; rfl) | (obtain ⟨_, _, _, _, _, _, _, _, _, _, _, _, _, rfl, _⟩ := h; rfl) | (obtain ⟨_, _, _, _, _, _, _, _, _, _, _, _, _, _, rfl, _⟩ := h; rfl) | (obtain ⟨_, _, _, _, _, _, _, _, _, _, _, _, _, _, _, rfl, _⟩ := h; rfl) | (obtain ⟨_, _, _, _, _, _, _, _, _, _, _, _, _, _, _, _, rfl, _⟩ := h; rfl)) (fun cdv A outer s H vs Q E hr h => ?_), hm, hb⟩, T.l_Ladder⟩
  obtain ⟨x, y, L, n, fs, r, rfl, hx, hy, k⟩ := h
  have hx' := hx
  obtain ⟨ldx, lfl, llt, lhh, lwl, lps, a1, _, _, _, _, _, _⟩ := hx'
  have hy' := hy
  obtain ⟨mdx, mfl, mlt, mhh, mwl, mps, b1, _, _, _, _, _, _⟩ := hy'
  have D_Ladder_falls := d_Ladder_falls (P := P) (base := base) T
  have D_Ladder_lanes := d_Ladder_lanes (P := P) (base := base) T
  have D_Ladder_returns := d_Ladder_returns (P := P) (base := base) T
  refine ⟨_, (pss_cons (ps_if (PW.pt (pw_or (pt_cmpR (op_uNe hr.units) (pe_mth0 D_Ladder_lanes (hr.mono (by decide)) (pv 0)) (pe_mth0 D_Ladder_lanes (hr.mono (by decide)) (pv 1)) (nomark _)) (pw_or1 (pt_cmpR (op_uNe hr.units) (pe_mth0 D_Ladder_returns (hr.mono (by decide)) (pv 0)) (pe_mth0 D_Ladder_returns (hr.mono (by decide)) (pv 1)) (nomark _))))) (pss_one (ps_ret pe_bl)) pss_nil)
      (pss_one (ps_ret (pe_cmpR (op_uEq hr.units) (pe_mth0 D_Ladder_falls (hr.mono (by decide)) (pv 0)) (pe_mth0 D_Ladder_falls (hr.mono (by decide)) (pv 1)) (nomark _))))), ?_⟩
  try dsimp only [cxOf, Cx.nox, Cx.wish]
  show (_ : TS) _ [some _, some _] _
  o_readsAll
  refine c_lnum hx ?_
  o_readsAll
  refine c_lnum hy ?_
  o_readsAll
  refine brF (by rw [decide_eq_true rfl]; rfl) ?_
  o_readsAll
  refine c_lnum hx ?_
  o_readsAll
  refine c_lnum hy ?_
  o_readsAll
  refine g_neB ?_
  o_readsAll
  refine brF (by rw [decide_eq_true rfl]; rfl) ?_
  o_readsAll
  refine c_lfalls hx fun p H1 fp e1 hp => ?_
  have b11 := e1 _ _ b1
  o_readsAll
  refine c_lfalls (hy.same e1) fun q H2 fq e2 hq => ?_
  refine g_eqIL (l := (List.range n).map fs) (m := (List.range n).map fs) (by rw [← rng_ints]; exact (hp.same e2).sq) (by rw [← rng_ints]; exact hq.sq) ?_
  rw [decide_eq_true rfl]
  exact k _ (e1.trans e2)
theorem c_lsame {C x y : Addr} {L : Int} {n : Nat} {fs : Nat → Int} {r : Bool} {H : Hp} {Q : VK} {E : XK} (hx : LadAt C H x L n fs r) (hy : LadAt C H y L n fs r) (k : ∀ H', Same H H' → Q (.bl true) H') : sp_lsame C [.ref x, .ref y] H Q E := ⟨x, y, L, n, fs, r, rfl, hx, hy, k⟩
def sp_tplayers (C CL : Addr) : Sp := fun vs H Q _ => ∃ (t : Addr) (L : Int) (n : Nat) (fs : Nat → Int) (ret : Bool) (cs : Nat → Int), vs = [.ref t] ∧ TabAt C CL H t L n fs ret cs ∧ Q (.int (sm cs n)) H
theorem d_Table_players (T : Txt K w mg Z) : Mth P w K mg base 1 Z.a_Table "players" ["self"] (sp_tplayers Z.a_Table Z.a_Ladder) := by
  obtain ⟨f, fd, F, hm, hb⟩ := T.f_Table_players
  refine ⟨⟨f, fd, F.ok sc_Table_players (fun vs H Q E h => by first | (obtain ⟨rfl, _⟩ := h; rfl) | (obtain ⟨_, rfl, _⟩ := h; rfl) | (obtain ⟨_, _, rfl, _⟩ := h; rfl) | (obtain ⟨_, _, _, rfl, _⟩ := h; rfl) | (obtain ⟨_, _, _, _, rfl, _⟩ := h; rfl) | (obtain ⟨_, _, _, _, _, rfl, _⟩ := h; rfl) | (obtain ⟨_, _, _, _, _, _, rfl, _⟩ := h; rfl) | (obtain ⟨_, _, _, _, _, _, _, rfl, _⟩ := h; rfl) | (obtain ⟨_, _, _, _, _, _, _, _, rfl, _⟩ := h; rfl) | (obtain ⟨_, _, _, _, _, _, _, _, _, rfl, _⟩ := h; rfl) | (obtain ⟨_, _, _, _, _, _, _, _, _, _, rfl, _⟩ := h; rfl) | (obtain ⟨_, _, _, _, _, _, _, _, _, _, _, rfl, _⟩ := h; rfl) | (obtain ⟨_, _, _, _, _, _, _, _, _, _, _, _, rfl, _⟩ := h; rfl) | (obtain ⟨_, _, _, _, _, _, _, _, _, _, _, _, _, rfl, _⟩ := h; rfl) | (obtain ⟨_, _, _, _, _, _, _, _, _, _, _, _, _, _, rfl, _⟩ := h; rfl) | (obtain ⟨_, _, _, _, _, _, _, _, _, _, _, _, _, _, _, rfl, _⟩ := h; rfl) | (obtain ⟨_, _, _, _, _, _, _, _, _, _, _, _, _, _, _, _, rfl, _⟩ := h; rfl)) (fun cdv A outer s H vs Q E hr h => ?_), hm, hb⟩, T.l_Table⟩
  obtain ⟨t, L, n, fs, ret, cs, rfl, ⟨dx, l, cl, h1, h2, h3⟩, k⟩ := h
  have l_Table := T.l_Table
  have n_Table_counts_list := T.n_Table_counts_list
  refine ⟨_, (pss_one (ps_ret (pe_callB (cr_sum rfl) (by rfl) T.b_sum bt_sum (pa_cons (pe_fld (pv 0) rfl) pa_nil)))), ?_⟩
  try dsimp only [cxOf, Cx.nox, Cx.wish]
  show (_ : TS) _ [some _] _
  o_readsAll
  exact g_sumI h2 k
theorem c_tplayers {C CL t : Addr} {L : Int} {n : Nat} {fs : Nat → Int} {ret : Bool} {cs : Nat → Int} {H : Hp} {Q : VK} {E : XK} (h : TabAt C CL H t L n fs ret cs) (k : Q (.int (sm cs n)) H) : sp_tplayers C CL [.ref t] H Q E := ⟨t, L, n, fs, ret, cs, rfl, h, k⟩
def sp_ton (C CL CB : Addr) : Sp := fun vs H Q E => ∃ (t : Addr) (a L : Int) (n : Nat) (fs : Nat → Int) (ret : Bool) (cs : Nat → Int), vs = [.ref t, .int a] ∧ TabAt C CL H t L n fs ret cs ∧ (∀ a' : Nat, a = a' → a' < n → Q (.int (cs a')) H) ∧ (¬ (0 ≤ a ∧ a < n) → RaiseI CB "rung" (.int a) H E)
theorem d_Table_on (T : Txt K w mg Z) : MthX P w K mg base 4 Z.a_Table "on" ["self", "a"] (sp_ton Z.a_Table Z.a_Ladder Z.a_BadLadder) := by
  obtain ⟨f, fd, F, hm, hb⟩ := T.f_Table_on
  refine ⟨⟨f, fd, F.okX sc_Table_on (fun vs H Q E h => by first | (obtain ⟨rfl, _⟩ := h; rfl) | (obtain ⟨_, rfl, _⟩ := h; rfl) | (obtain ⟨_, _, rfl, _⟩ := h; rfl) | (obtain ⟨_, _, _, rfl, _⟩ := h; rfl) | (obtain ⟨_, _, _, _, rfl, _⟩ := h; rfl) | (obtain ⟨_, _, _, _, _, rfl, _⟩ := h; rfl) | (obtain ⟨_, _, _, _, _, _, rfl, _⟩ := h; rfl) | (obtain ⟨_, _, _, _, _, _, _, rfl, _⟩ := h; rfl) | (obtain ⟨_, _, _, _, _, _, _, _, rfl, _⟩ := h; rfl) | (obtain ⟨_, _, _, _, _, _, _, _, _, rfl, _⟩ := h; rfl) | (obtain ⟨_, _, _, _, _, _, _, _, _, _, rfl, _⟩ := h; rfl) | (obtain ⟨_, _, _, _, _, _, _, _, _, _, _, rfl, _⟩ := h; rfl) | (obtain ⟨_, _, _, _, _, _, _, _, _, _, _, _, rfl, _⟩ := h; rfl) | (obtain ⟨_, _, _, _, _, _, _, _, _, _, _, _, _, rfl, _⟩ := h; rfl) | (obtain ⟨_, _, _, _, _, _, _, _, _, _, _, _, _, _, rfl, _⟩ := h; rfl) | (obtain ⟨_, _, _, _, _, _, _, _, _, _, _, _, _, _, _, rfl, _⟩ := h; rfl) | (obtain ⟨_, _, _, _, _, _, _, _, _, _, _, _, _, _, _, _, rfl, _⟩ := h; rfl)) (fun cdv A outer s H vs Q E hr h => ?_), hm, hb⟩, T.l_Table⟩
  obtain ⟨t, a, L, n, fs, ret, cs, rfl, ⟨dx, l, cl, h1, h2, h3⟩, k1, k2⟩ := h
  have h3' := h3
  obtain ⟨ldx, fl, lt, hh, wl, ps, a1, _, _, _, _, _, _⟩ := h3'
  have D_Ladder_check_rung := d_Ladder_check_rung (P := P) (base := base) T
  have l_Table := T.l_Table
  have n_Table_ladder_kept := T.n_Table_ladder_kept
  have n_Table_counts_list := T.n_Table_counts_list
  refine ⟨_, (pss_cons (ps_expr (pe_mthS D_Ladder_check_rung (hr.mono (by decide)) (takes_of rfl rfl rfl rfl) (pe_fld (pv 0) rfl) (pa_cons (pv 1) pa_nil)))
      (pss_one (ps_ret (pe_ix ix_seq (pe_fld (pv 0) rfl) (pv 1) (fun _ _ => rfl))))), ?_⟩
  try dsimp only [cxOf, Cx.nox, Cx.wish]
  show (_ : TS) _ [some _, some _] _
  o_readsAll
  refine c_crung h3 (fun a0 an => ?_) k2
  obtain ⟨a, rfl⟩ : ∃ a' : Nat, a = a' := ⟨a.toNat, by omega⟩
  o_readsAll
  refine g_ixL h2.sq (atI_nat (rng_at (by omega))) ?_
  exact k1 a rfl (by omega)
theorem c_ton {C CL CB t : Addr} {a : Nat} {L : Int} {n : Nat} {fs : Nat → Int} {ret : Bool} {cs : Nat → Int} {H : Hp} {Q : VK} {E : XK} (h : TabAt C CL H t L n fs ret cs) (an : a < n) (k : Q (.int (cs a)) H) : sp_ton C CL CB [.ref t, .int (a : Int)] H Q E := ⟨t, a, L, n, fs, ret, cs, rfl, h, fun a' e _ => (show a = a' by omega) ▸ k, fun h => absurd ⟨by omega, by omega⟩ h⟩
/-- how many stand on this rung and above -/
def abv (n : Nat) (cs : Nat → Int) (r : Nat) : Int := sm (fun j => cs (r + j)) (n - r)
def sp_above (C CL CB : Addr) : Sp := fun vs H Q E => ∃ (t : Addr) (a L : Int) (n : Nat) (fs : Nat → Int) (ret : Bool) (cs : Nat → Int), vs = [.ref t, .int a] ∧ TabAt C CL H t L n fs ret cs ∧ (∀ r : Nat, a + 1 = (r : Int) → r ≤ n → ∀ H', Same H H' → Q (.int (abv n cs r)) H') ∧ (¬ (-1 ≤ a ∧ a < n) → RaiseI CB "rung" (.int a) H E)
theorem d_Table_above (T : Txt K w mg Z) : MthX P w K mg base 3 Z.a_Table "above" ["self", "a"] (sp_above Z.a_Table Z.a_Ladder Z.a_BadLadder) := by
  obtain ⟨f, fd, F, hm, hb⟩ := T.f_Table_above
  refine ⟨⟨f, fd, F.okX sc_Table_above (fun vs H Q E h => by first | (obtain ⟨rfl, _⟩ := h; rfl) | (obtain ⟨_, rfl, _⟩ := h; rfl) | (obtain ⟨_, _, rfl, _⟩ := h; rfl) | (obtain ⟨_, _, _, rfl, _⟩ := h; rfl) | (obtain ⟨_, _, _, _, rfl, _⟩ := h; rfl) | (obtain ⟨_, _, _, _, _, rfl, _⟩ := h; rfl) | (obtain ⟨_, _, _, _, _, _, rfl, _⟩ := h; rfl) | (obtain ⟨_, _, _, _, _, _, _, rfl, _⟩ := h; rfl) | (obtain ⟨_, _, _, _, _, _, _, _, rfl, _⟩ := h; rfl) | (obtain ⟨_, _, _, _, _, _, _, _, _, rfl, _⟩ := h; rfl) | (obtain ⟨_, _, _, _, _, _, _, _, _, _, rfl, _⟩ := h; rfl) | (obtain ⟨_, _, _, _, _, _, _, _, _, _, _, rfl, _⟩ := h; rfl) | (obtain ⟨_, _, _, _, _, _, _, _, _, _, _, _, rfl, _⟩ := h; rfl) | (obtain ⟨_, _, _, _, _, _, _, _, _, _, _, _, _, rfl, _⟩ := h; rfl) | (obtain ⟨_, _, _, _, _, _, _, _, _, _, _, _, _, _, rfl, _⟩ := h; rfl) | (obtain ⟨_, _, _, _, _, _, _, _, _, _, _, _, _, _, _, rfl, _⟩ := h; rfl) | (obtain ⟨_, _, _, _, _, _, _, _, _, _, _, _, _, _, _, _, rfl, _⟩ := h; rfl)) (fun cdv A outer s H vs Q E hr h => ?_), hm, hb⟩, T.l_Table⟩
  obtain ⟨t, a, L, n, fs, ret, cs, rfl, ⟨dx, l, cl, h1, h2, h3⟩, k1, k2⟩ := h
  unfold IL at h2
  have D_BadLadder_init := d_BadLadder_init (P := P) (base := base) T
  have l_Table := T.l_Table
  have n_Table_counts_list := T.n_Table_counts_list
  refine ⟨_, (pss_cons (ps_if (pt_not (pt_chain op_le op_lt (pe_un un_neg pe_int) (pv 1) (pe_callB call_uLen (by rfl) T.b_len bt_len (pa_cons (pe_fld (pv 0) rfl) pa_nil)))) (pss_one (ps_rs (takes_of rfl rfl rfl rfl) (pmk_iex D_BadLadder_init (hr.mono (by decide)) (by rfl) (pa_cons (pv 1) pa_nil)) rfl)) pss_nil)
      (pss_one (ps_ret (pe_callB (cr_sum rfl) (by rfl) T.b_sum bt_sum (pa_cons (pe_slice sl_u (pe_fld (pv 0) rfl) (po_some (pe_op op_uAdd (pv 1) pe_int)) po_none) pa_nil))))), ?_⟩
  try dsimp only [cxOf, Cx.nox, Cx.wish]
  show (_ : TS) _ [some _, some _] _
  o_readsAll
  refine ⟨_, rfl, ?_⟩
  refine br (fun hh1 => ?_) (fun hh1 => ?_)
  · o_readsAll
    rw [rng_len]
    refine brn (fun hh2 => ?_) (fun hh2 => ?_)
    · o_readsAll
      refine c_raise fun d H1 fd e1 hd => ?_
      exact k2 (fun z => hh2 z.2) d H1 fd e1 hd
    · o_readsAll
      rename_i q H1 fq e1 hq
      obtain ⟨r, hr'⟩ : ∃ r : Nat, a + 1 = (r : Int) := ⟨(a + 1).toNat, by omega⟩
      rw [hr', rng_cut (by omega)] at hq
      refine g_sumI (f := fun j => cs (r + j)) (n := n - r) hq ?_
      exact k1 r hr' (by omega) _ e1
  · o_readsAll
    refine c_raise fun d H1 fd e1 hd => ?_
    exact k2 (fun z => hh1 z.1) d H1 fd e1 hd
theorem c_above {C CL CB t : Addr} {r : Nat} {a L : Int} {n : Nat} {fs : Nat → Int} {ret : Bool} {cs : Nat → Int} {H : Hp} {Q : VK} {E : XK} (h : TabAt C CL H t L n fs ret cs) (ha : a + 1 = (r : Int)) (hr : r ≤ n) (k : ∀ H', Same H H' → Q (.int (abv n cs r)) H') : sp_above C CL CB [.ref t, .int a] H Q E := ⟨t, a, L, n, fs, ret, cs, rfl, h, fun r' e _ => (show r = r' by omega) ▸ k, fun h => absurd ⟨by omega, by omega⟩ h⟩
def sp_tval (C CL : Addr) (v : Int → (Nat → Int) → Nat → Int) : Sp := fun vs H Q _ => ∃ (t : Addr) (L : Int) (n : Nat) (fs : Nat → Int) (ret : Bool) (cs : Nat → Int), vs = [.ref t] ∧ TabAt C CL H t L n fs ret cs ∧ TOk L n fs cs ∧ ∀ H', Same H H' → Q (.int (sm (fun b => cs b * v L fs b) n)) H'
theorem d_Table_heads (T : Txt K w mg Z) : Mth P w K mg base 5 Z.a_Table "heads" ["self"] (sp_tval Z.a_Table Z.a_Ladder hd) := by
  obtain ⟨f, fd, F, hm, hb⟩ := T.f_Table_heads
  refine ⟨⟨f, fd, F.ok sc_Table_heads (fun vs H Q E h => by first | (obtain ⟨rfl, _⟩ := h; rfl) | (obtain ⟨_, rfl, _⟩ := h; rfl) | (obtain ⟨_, _, rfl, _⟩ := h; rfl) | (obtain ⟨_, _, _, rfl, _⟩ := h; rfl) | (obtain ⟨_, _, _, _, rfl, _⟩ := h; rfl) | (obtain ⟨_, _, _, _, _, rfl, _⟩ := h; rfl) | (obtain ⟨_, _, _, _, _, _, rfl, _⟩ := h; rfl) | (obtain ⟨_, _, _, _, _, _, _, rfl, _⟩ := h; rfl) | (obtain ⟨_, _, _, _, _, _, _, _, rfl, _⟩ := h; rfl) | (obtain ⟨_, _, _, _, _, _, _, _, _, rfl, _⟩ := h; rfl) | (obtain ⟨_, _, _, _, _, _, _, _, _, _, rfl, _⟩ := h; rfl) | (obtain ⟨_, _, _, _, _, _, _, _, _, _, _, rfl, _⟩ := h; rfl) | (obtain ⟨_, _, _, _, _, _, _, _, _, _, _, _, rfl, _⟩ := h; rfl) | (obtain ⟨_, _, _, _, _, _, _, _, _, _, _, _, _, rfl, _⟩ := h; rfl) | (obtain ⟨_, _, _, _, _, _, _, _, _, _, _, _, _, _, rfl, _⟩ := h; rfl) | (obtain ⟨_, _, _, _, _, _, _, _, _, _, _, _, _, _, _, rfl, _⟩ := h; rfl) | (obtain ⟨_, _, _, _, _, _, _, _, _, _, _, _, _, _, _, _, rfl, _⟩ := h; rfl)) (fun cdv A outer s H vs Q E hr h => ?_), hm, hb⟩, T.l_Table⟩
  obtain ⟨t, L, n, fs, ret, cs, rfl, ⟨dx, l, cl, h1, h2, h3⟩, o, k⟩ := h
  have h3' := h3
  obtain ⟨ldx, fl, lt, hh, wl, ps, a1, _, _, _, _, _, _⟩ := h3'
  have n40 := o.n40
  have l2 := o.l2
  have l6 := o.l6
  have D_Ladder_heads := d_Ladder_heads (P := P) (base := base) T
  have l_Table := T.l_Table
  have n_Table_ladder_kept := T.n_Table_ladder_kept
  have n_Table_counts_list := T.n_Table_counts_list
  refine ⟨_, (pss_one (ps_ret (pe_callB (cr_sum rfl) (by rfl) T.b_sum bt_sum (pa_cons (pe_lc (own := [("b", 1), ("many", 2)]) (by rfl) sc_Table_heads.nd (pi_enum (by rfl) T.b_enumerate (pa_cons (pe_fld (pv 0) rfl) pa_nil)) (blkOk_by (N := n_Table_heads) (sc := defScope st_Table_heads) (by decide +kernel)) (fun _ _ _ _ _ => (pg_tupK (K := K) (n := 2) rfl (by rfl) (pgs_cons (pg_name (i := 1) sc_Table_heads.nd rfl (.inl rfl)) (pgs_cons (pg_name (i := 2) sc_Table_heads.nd rfl (.inl rfl)) pgs_nil)))) (fun _ _ _ _ _ => pts_nil) (fun _ _ _ _ _ => (pe_op op_uMul (pv 2) (pe_mthS D_Ladder_heads (hr.mono (by decide)) takes0 (pe_fldK (K := K) rfl (pv 0) rfl) (pa_cons (pv 1) pa_nil))))) pa_nil)))), ?_⟩
  try dsimp only [cxOf, Cx.nox, Cx.wish]
  show (_ : TS) _ [some _, none, none] _
  o_readsAll
  refine l_enumP (fun i => .int (cs i * hd L fs i)) (xs := rng n cs) h2.sq (fun x y => rfl) (fun D i x H' hx hD e hl => ?_) fun q H2 hq e2 h2' => ?_
  · have hi : i < n := by have := (List.getElem?_eq_some_iff.mp hx).1; rw [rng_len] at this; exact this
    rw [rng_at hi] at hx
    cases hx
    have h1e := e _ _ h1
    have a1e := e _ _ a1
    o_readsAll
    refine c_lval (h3.same e) (by omega) ?_
    refine g_mulW (mul_nb (o.cb i hi) (hd_bd (L := L) o.ok (by omega) l6 i (by omega)) (by decide)) ?_
    exact g_itemP e hl hD (by rw [sizeLine_eq]; omega) rfl
  · rw [rng_len] at h2'
    o_readsAll
    refine g_sumI (f := fun i => cs i * hd L fs i) (n := n) h2' ?_
    exact k _ e2
theorem d_Table_worth (T : Txt K w mg Z) : Mth P w K mg base 5 Z.a_Table "worth" ["self"] (sp_tval Z.a_Table Z.a_Ladder wd) := by
  obtain ⟨f, fd, F, hm, hb⟩ := T.f_Table_worth
  refine ⟨⟨f, fd, F.ok sc_Table_worth (fun vs H Q E h => by first | (obtain ⟨rfl, _⟩ := h; rfl) | (obtain ⟨_, rfl, _⟩ := h; rfl) | (obtain ⟨_, _, rfl, _⟩ := h; rfl) | (obtain ⟨_, _, _, rfl, _⟩ := h; rfl) | (obtain ⟨_, _, _, _, rfl, _⟩ := h; rfl) | (obtain ⟨_, _, _, _, _, rfl, _⟩ := h; rfl) | (obtain ⟨_, _, _, _, _, _, rfl, _⟩ := h; rfl) | (obtain ⟨_, _, _, _, _, _, _, rfl, _⟩ := h; rfl) | (obtain ⟨_, _, _, _, _, _, _, _, rfl, _⟩ := h; rfl) | (obtain ⟨_, _, _, _, _, _, _, _, _, rfl, _⟩ := h; rfl) | (obtain ⟨_, _, _, _, _, _, _, _, _, _, rfl, _⟩ := h; rfl) | (obtain ⟨_, _, _, _, _, _, _, _, _, _, _, rfl, _⟩ := h; rfl) | (obtain ⟨_, _, _, _, _, _, _, _, _, _, _, _, rfl, _⟩ := h; rfl) | (obtain ⟨_, _, _, _, _, _, _, _, _, _, _, _, _, rfl, _⟩ := h; rfl) | (obtain ⟨_, _, _, _, _, _, _, _, _, _, _, _, _, _, rfl, _⟩ := h; rfl) | (obtain ⟨_, _, _, _, _, _, _, _, _, _, _, _, _, _, _, rfl, _⟩ := h; rfl) | (obtain ⟨_, _, _, _, _, _, _, _, _, _, _, _, _, _, _, _, rfl, _⟩ := h; rfl)) (fun cdv A outer s H vs Q E hr h => ?_), hm, hb⟩, T.l_Table⟩
  obtain ⟨t, L, n, fs, ret, cs, rfl, ⟨dx, l, cl, h1, h2, h3⟩, o, k⟩ := h
  have h3' := h3
  obtain ⟨ldx, fl, lt, hh, wl, ps, a1, _, _, _, _, _, _⟩ := h3'
  have n40 := o.n40
  have l2 := o.l2
  have l6 := o.l6
  have D_Ladder_worth := d_Ladder_worth (P := P) (base := base) T
  have l_Table := T.l_Table
  have n_Table_ladder_kept := T.n_Table_ladder_kept
  have n_Table_counts_list := T.n_Table_counts_list
  refine ⟨_, (pss_one (ps_ret (pe_callB (cr_sum rfl) (by rfl) T.b_sum bt_sum (pa_cons (pe_lc (own := [("b", 1), ("many", 2)]) (by rfl) sc_Table_worth.nd (pi_enum (by rfl) T.b_enumerate (pa_cons (pe_fld (pv 0) rfl) pa_nil)) (blkOk_by (N := n_Table_worth) (sc := defScope st_Table_worth) (by decide +kernel)) (fun _ _ _ _ _ => (pg_tupK (K := K) (n := 2) rfl (by rfl) (pgs_cons (pg_name (i := 1) sc_Table_worth.nd rfl (.inl rfl)) (pgs_cons (pg_name (i := 2) sc_Table_worth.nd rfl (.inl rfl)) pgs_nil)))) (fun _ _ _ _ _ => pts_nil) (fun _ _ _ _ _ => (pe_op op_uMul (pv 2) (pe_mthS D_Ladder_worth (hr.mono (by decide)) takes0 (pe_fldK (K := K) rfl (pv 0) rfl) (pa_cons (pv 1) pa_nil))))) pa_nil)))), ?_⟩
  try dsimp only [cxOf, Cx.nox, Cx.wish]
  show (_ : TS) _ [some _, none, none] _
  o_readsAll
  refine l_enumP (fun i => .int (cs i * wd L fs i)) (xs := rng n cs) h2.sq (fun x y => rfl) (fun D i x H' hx hD e hl => ?_) fun q H2 hq e2 h2' => ?_
  · have hi : i < n := by have := (List.getElem?_eq_some_iff.mp hx).1; rw [rng_len] at this; exact this
    rw [rng_at hi] at hx
    cases hx
    have h1e := e _ _ h1
    have a1e := e _ _ a1
    o_readsAll
    refine c_lval (h3.same e) (by omega) ?_
    refine g_mulW (mul_nb (o.cb i hi) (wd_bd (L := L) o.ok (by omega) l6 i (by omega)) (by decide)) ?_
    exact g_itemP e hl hD (by rw [sizeLine_eq]; omega) rfl
  · rw [rng_len] at h2'
    o_readsAll
    refine g_sumI (f := fun i => cs i * wd L fs i) (n := n) h2' ?_
    exact k _ e2
theorem c_tval {C CL t : Addr} {v : Int → (Nat → Int) → Nat → Int} {L : Int} {n : Nat} {fs : Nat → Int} {ret : Bool} {cs : Nat → Int} {H : Hp} {Q : VK} {E : XK} (h : TabAt C CL H t L n fs ret cs) (o : TOk L n fs cs) (k : ∀ H', Same H H' → Q (.int (sm (fun b => cs b * v L fs b) n)) H') : sp_tval C CL v [.ref t] H Q E := ⟨t, L, n, fs, ret, cs, rfl, h, o, k⟩
def sp_tload (C CL CB : Addr) : Sp := fun vs H Q E => ∃ (t : Addr) (a L : Int) (n : Nat) (fs : Nat → Int) (ret : Bool) (cs : Nat → Int), vs = [.ref t, .int a] ∧ TabAt C CL H t L n fs ret cs ∧ TOk L n fs cs ∧ (∀ a' : Nat, a = a' → a' < n → ∀ H', Same H H' → Q (.int (sm (fun b => cs b * ld L fs a' b) n)) H') ∧ (¬ (0 ≤ a ∧ a < n) → RaiseI CB "rung" (.int a) H E)
theorem d_Table_load (T : Txt K w mg Z) : MthX P w K mg base 5 Z.a_Table "load" ["self", "a"] (sp_tload Z.a_Table Z.a_Ladder Z.a_BadLadder) := by
  obtain ⟨f, fd, F, hm, hb⟩ := T.f_Table_load
  refine ⟨⟨f, fd, F.okX sc_Table_load (fun vs H Q E h => by first | (obtain ⟨rfl, _⟩ := h; rfl) | (obtain ⟨_, rfl, _⟩ := h; rfl) | (obtain ⟨_, _, rfl, _⟩ := h; rfl) | (obtain ⟨_, _, _, rfl, _⟩ := h; rfl) | (obtain ⟨_, _, _, _, rfl, _⟩ := h; rfl) | (obtain ⟨_, _, _, _, _, rfl, _⟩ := h; rfl) | (obtain ⟨_, _, _, _, _, _, rfl, _⟩ := h; rfl) | (obtain ⟨_, _, _, _, _, _, _, rfl, _⟩ := h; rfl) | (obtain ⟨_, _, _, _, _, _, _, _, rfl, _⟩ := h; rfl) | (obtain ⟨_, _, _, _, _, _, _, _, _, rfl, _⟩ := h; rfl) | (obtain ⟨_, _, _, _, _, _, _, _, _, _, rfl, _⟩ := h; rfl) | (obtain ⟨_, _, _, _, _, _, _, _, _, _, _, rfl, _⟩ := h; rfl) | (obtain ⟨_, _, _, _, _, _, _, _, _, _, _, _, rfl, _⟩ := h; rfl) | (obtain ⟨_, _, _, _, _, _, _, _, _, _, _, _, _, rfl, _⟩ := h; rfl) | (obtain ⟨_, _, _, _, _, _, _, _, _, _, _, _, _, _, rfl, _⟩ := h; rfl) | (obtain ⟨_, _, _, _, _, _, _, _, _, _, _, _, _, _, _, rfl, _⟩ := h; rfl) | (obtain ⟨_, _, _, _, _, _, _, _, _, _, _, _, _, _, _, _, rfl, _⟩ := h; rfl)) (fun cdv A outer s H vs Q E hr h => ?_), hm, hb⟩, T.l_Table⟩
  obtain ⟨t, a, L, n, fs, ret, cs, rfl, ⟨dx, l, cl, h1, h2, h3⟩, o, k1, k2⟩ := h
  have h3' := h3
  obtain ⟨ldx, fl, lt, hh, wl, ps, a1, _, _, _, _, _, _⟩ := h3'
  have n40 := o.n40
  have l2 := o.l2
  have l6 := o.l6
  have D_Ladder_check_rung := d_Ladder_check_rung (P := P) (base := base) T
  have D_Ladder_load := d_Ladder_load (P := P) (base := base) T
  have l_Table := T.l_Table
  have n_Table_ladder_kept := T.n_Table_ladder_kept
  have n_Table_counts_list := T.n_Table_counts_list
  refine ⟨_, (pss_cons (ps_expr (pe_mthS D_Ladder_check_rung (hr.mono (by decide)) (takes_of rfl rfl rfl rfl) (pe_fld (pv 0) rfl) (pa_cons (pv 1) pa_nil)))
      (pss_one (ps_ret (pe_callB (cr_sum rfl) (by rfl) T.b_sum bt_sum (pa_cons (pe_lc (own := [("b", 2), ("many", 3)]) (by rfl) sc_Table_load.nd (pi_enum (by rfl) T.b_enumerate (pa_cons (pe_fld (pv 0) rfl) pa_nil)) (blkOk_by (N := n_Table_load) (sc := defScope st_Table_load) (by decide +kernel)) (fun _ _ _ _ _ => (pg_tupK (K := K) (n := 2) rfl (by rfl) (pgs_cons (pg_name (i := 2) sc_Table_load.nd rfl (.inl rfl)) (pgs_cons (pg_name (i := 3) sc_Table_load.nd rfl (.inl rfl)) pgs_nil)))) (fun _ _ _ _ _ => pts_nil) (fun _ _ _ _ _ => (pe_op op_uMul (pv 3) (pe_mthS D_Ladder_load (hr.mono (by decide)) takes0 (pe_fldK (K := K) rfl (pv 0) rfl) (pa_cons (pv 1) (pa_cons (pv 2) pa_nil)))))) pa_nil))))), ?_⟩
  try dsimp only [cxOf, Cx.nox, Cx.wish]
  show (_ : TS) _ [some _, some _, none, none] _
  o_readsAll
  refine c_crung h3 (fun a0 an => ?_) k2
  obtain ⟨a, rfl⟩ : ∃ a' : Nat, a = a' := ⟨a.toNat, by omega⟩
  o_readsAll
  refine l_enumP (fun i => .int (cs i * ld L fs a i)) (xs := rng n cs) h2.sq (fun x y => rfl) (fun D i x H' hx hD e hl => ?_) fun q H2 hq e2 h2' => ?_
  · have hi : i < n := by have := (List.getElem?_eq_some_iff.mp hx).1; rw [rng_len] at this; exact this
    rw [rng_at hi] at hx
    cases hx
    have h1e := e _ _ h1
    have a1e := e _ _ a1
    o_readsAll
    refine c_lload (h3.same e) (by omega) (by omega) ?_
    refine g_mulW (mul_nb (o.cb i hi) (ld_bd (L := L) o.ok (by omega) l6 a i (by omega)) (by decide)) ?_
    exact g_itemP e hl hD (by rw [sizeLine_eq]; omega) rfl
  · rw [rng_len] at h2'
    o_readsAll
    refine g_sumI (f := fun i => cs i * ld L fs a i) (n := n) h2' ?_
    exact k1 a rfl (by omega) _ e2
theorem c_tload {C CL CB t : Addr} {a : Nat} {L : Int} {n : Nat} {fs : Nat → Int} {ret : Bool} {cs : Nat → Int} {H : Hp} {Q : VK} {E : XK} (h : TabAt C CL H t L n fs ret cs) (o : TOk L n fs cs) (an : a < n) (k : ∀ H', Same H H' → Q (.int (sm (fun b => cs b * ld L fs a b) n)) H') : sp_tload C CL CB [.ref t, .int (a : Int)] H Q E := ⟨t, a, L, n, fs, ret, cs, rfl, h, o, fun a' e _ => (show a = a' by omega) ▸ k, fun h => absurd ⟨by omega, by omega⟩ h⟩
end
end L25

namespace L25
set_option exponentiation.threshold 2000
open SX Ld
section
variable {P : Program} {w : World} {K : PySem.W.Frag} {mg : Str → Option Value} {base : Heap} {Z : Ad}
/-- counts with one place changed -/
def chg (cs : Nat → Int) (a : Nat) (m : Int) (i : Nat) : Int := if i = a then cs a + m else cs i
def sp_tmoved (C CL : Addr) : Sp := fun vs H Q _ => ∃ (t : Addr) (a : Nat) (m L : Int) (n : Nat) (fs : Nat → Int) (ret : Bool) (cs : Nat → Int), vs = [.ref t, .int (a : Int), .int m] ∧ TabAt C CL H t L n fs ret cs ∧ n ≤ 40 ∧ a < n ∧ (∀ i, i < n → 0 ≤ chg cs a m i) ∧ ∀ t' H', H t' = none → Same H H' → TabAt C CL H' t' L n fs ret (chg cs a m) → Q (.ref t') H'
theorem d_Table_moved (T : Txt K w mg Z) : Mth P w K mg base 5 Z.a_Table "moved" ["self", "a", "many"] (sp_tmoved Z.a_Table Z.a_Ladder) := by
  obtain ⟨f, fd, F, hm, hb⟩ := T.f_Table_moved
  refine ⟨⟨f, fd, F.ok sc_Table_moved (fun vs H Q E h => by first | (obtain ⟨rfl, _⟩ := h; rfl) | (obtain ⟨_, rfl, _⟩ := h; rfl) | (obtain ⟨_, _, rfl, _⟩ := h; rfl) | (obtain ⟨_, _, _, rfl, _⟩ := h; rfl) | (obtain ⟨_, _, _, _, rfl, _⟩ := h; rfl) | (obtain ⟨_, _, _, _, _, rfl, _⟩ := h; rfl) | (obtain ⟨_, _, _, _, _, _, rfl, _⟩ := h; rfl) | (obtain ⟨_, _, _, _, _, _, _, rfl, _⟩ := h; rfl) | (obtain ⟨_, _, _, _, _, _, _, _, rfl, _⟩ := h; rfl) | (obtain ⟨_, _, _, _, _, _, _, _, _, rfl, _⟩ := h; rfl) | (obtain ⟨_, _, _, _, _, _, _, _, _, _, rfl, _⟩ := h; rfl) | (obtain ⟨_, _, _, _, _, _, _, _, _, _, _, rfl, _⟩ := h; rfl) | (obtain ⟨_, _, _, _, _, _, _, _, _, _, _, _, rfl, _⟩ := h; rfl) | (obtain ⟨_, _, _, _, _, _, _, _, _, _, _, _, _, rfl, _⟩ := h; rfl) | (obtain ⟨_, _, _, _, _, _, _, _, _, _, _, _, _, _, rfl, _⟩ := h; rfl) | (obtain ⟨_, _, _, _, _, _, _, _, _, _, _, _, _, _, _, rfl, _⟩ := h; rfl) | (obtain ⟨_, _, _, _, _, _, _, _, _, _, _, _, _, _, _, _, rfl, _⟩ := h; rfl)) (fun cdv A outer s H vs Q E hr h => ?_), hm, hb⟩, T.l_Table⟩
  obtain ⟨t, a, m, L, n, fs, ret, cs, rfl, ⟨dx, l, cl, h1, h2, h3⟩, n40, an, h0, k⟩ := h
  unfold IL at h2
  have D_Table_init := d_Table_init (P := P) (base := base) T
  have l_Table := T.l_Table
  have n_Table_ladder_kept := T.n_Table_ladder_kept
  have n_Table_counts_list := T.n_Table_counts_list
  refine ⟨_, (pss_cons (ps_set (i := 3) sc_Table_moved.nd rfl (.inl rfl) (pe_callTy call_uList (by rfl) T.b_list bt_list (pa_cons (pe_fld (pv 0) rfl) pa_nil)))
      (pss_cons (ps_asg (pe_op op_uAdd (pe_ix ix_seq (pv 3) (pv 1) (fun _ _ => rfl)) (pv 2)) (pg_sub (pv 3) (pv 1) set_list))
      (pss_one (ps_ret (pe_ini D_Table_init (hr.mono (by decide)) (by rfl) (pa_cons (pe_fld (pv 0) rfl) (pa_cons (pv 3) pa_nil))))))), ?_⟩
  try dsimp only [cxOf, Cx.nox, Cx.wish]
  show (_ : TS) _ [some _, some _, some _, none] _
  o_readsAll
  rename_i q H1 fq e1 hq N hN
  refine g_ixL (.of hq) (atI_nat (rng_at an)) ?_
  o_readsAll
  refine g_setL hq (by rw [rng_len]; exact ixN_at an) (rng_set n a _ _) ?_
  have e2 : Same H (upd H1 q (.lst (rng n (chg cs a m)))) := Eg.Same.put e1 fq
  have h4 := e2 _ _ h1
  have hq' : IL (upd H1 q (.lst (rng n (chg cs a m)))) q n (chg cs a m) := upd_same
  rw [show (upd H1 q (.lst (rng n fun i => if i = a then cs a + m else cs i))) = upd H1 q (.lst (rng n (chg cs a m))) from rfl]
  generalize upd H1 q (.lst (rng n (chg cs a m))) = H2 at *
  o_readsAll
  exact c_tmake (h3.same e2) hq' (by omega) h0 fun t' H3 ft e3 ht => k t' H3 (e2.free ft) (e2.trans e3) ht
theorem c_tmoved {C CL t : Addr} {a : Nat} {m L : Int} {n : Nat} {fs : Nat → Int} {ret : Bool} {cs : Nat → Int} {H : Hp} {Q : VK} {E : XK} (h : TabAt C CL H t L n fs ret cs) (n40 : n ≤ 40) (an : a < n) (h0 : ∀ i, i < n → 0 ≤ chg cs a m i) (k : ∀ t' H', H t' = none → Same H H' → TabAt C CL H' t' L n fs ret (chg cs a m) → Q (.ref t') H') : sp_tmoved C CL [.ref t, .int (a : Int), .int m] H Q E := ⟨t, a, m, L, n, fs, ret, cs, rfl, h, n40, an, h0, k⟩
def sp_tput (C CL CB CT : Addr) : Sp := fun vs H Q E => ∃ (t : Addr) (a m L : Int) (n : Nat) (fs : Nat → Int) (ret : Bool) (cs : Nat → Int), vs = [.ref t, .int a, .int m] ∧ TabAt C CL H t L n fs ret cs ∧ n ≤ 40 ∧ (∀ i, i < n → 0 ≤ cs i) ∧ (∀ a' : Nat, a = a' → a' < n → 0 ≤ m → ∀ t' H', H t' = none → Same H H' → TabAt C CL H' t' L n fs ret (chg cs a' m) → Q (.ref t') H') ∧ (¬ (0 ≤ a ∧ a < n) → RaiseI CB "rung" (.int a) H E) ∧ (0 ≤ a → a < n → m < 0 → RaiseI CT "rung" (.int a) H E)
theorem d_Table_put (T : Txt K w mg Z) : MthX P w K mg base 6 Z.a_Table "put" ["self", "a", "many"] (sp_tput Z.a_Table Z.a_Ladder Z.a_BadLadder Z.a_BadTable) := by
  obtain ⟨f, fd, F, hm, hb⟩ := T.f_Table_put
  refine ⟨⟨f, fd, F.okX sc_Table_put (fun vs H Q E h => by first | (obtain ⟨rfl, _⟩ := h; rfl) | (obtain ⟨_, rfl, _⟩ := h; rfl) | (obtain ⟨_, _, rfl, _⟩ := h; rfl) | (obtain ⟨_, _, _, rfl, _⟩ := h; rfl) | (obtain ⟨_, _, _, _, rfl, _⟩ := h; rfl) | (obtain ⟨_, _, _, _, _, rfl, _⟩ := h; rfl) | (obtain ⟨_, _, _, _, _, _, rfl, _⟩ := h; rfl) | (obtain ⟨_, _, _, _, _, _, _, rfl, _⟩ := h; rfl) | (obtain ⟨_, _, _, _, _, _, _, _, rfl, _⟩ := h; rfl) | (obtain ⟨_, _, _, _, _, _, _, _, _, rfl, _⟩ := h; rfl) | (obtain ⟨_, _, _, _, _, _, _, _, _, _, rfl, _⟩ := h; rfl) | (obtain ⟨_, _, _, _, _, _, _, _, _, _, _, rfl, _⟩ := h; rfl) | (obtain ⟨_, _, _, _, _, _, _, _, _, _, _, _, rfl, _⟩ := h; rfl) | (obtain ⟨_, _, _, _, _, _, _, _, _, _, _, _, _, rfl, _⟩ := h; rfl) | (obtain ⟨_, _, _, _, _, _, _, _, _, _, _, _, _, _, rfl, _⟩ := h; rfl) | (obtain ⟨_, _, _, _, _, _, _, _, _, _, _, _, _, _, _, rfl, _⟩ := h; rfl) | (obtain ⟨_, _, _, _, _, _, _, _, _, _, _, _, _, _, _, _, rfl, _⟩ := h; rfl)) (fun cdv A outer s H vs Q E hr h => ?_), hm, hb⟩, T.l_Table⟩
  obtain ⟨t, a, m, L, n, fs, ret, cs, rfl, ht, n40, h0, k1, k2, k3⟩ := h
  have ht' := ht
  obtain ⟨dx, l, cl, h1, h2, h3⟩ := ht'
  have h3' := h3
  obtain ⟨ldx, fl, lt, hh, wl, ps, a1, _, _, _, _, _, _⟩ := h3'
  have D_Ladder_check_rung := d_Ladder_check_rung (P := P) (base := base) T
  have D_Table_moved := d_Table_moved (P := P) (base := base) T
  have D_BadTable_init := d_BadTable_init (P := P) (base := base) T
  have l_Table := T.l_Table
  have n_Table_ladder_kept := T.n_Table_ladder_kept
  refine ⟨_, (pss_cons (ps_expr (pe_mthS D_Ladder_check_rung (hr.mono (by decide)) (takes_of rfl rfl rfl rfl) (pe_fld (pv 0) rfl) (pa_cons (pv 1) pa_nil)))
      (pss_cons (ps_if (pt_cmpR op_lt (pv 2) pe_int (nomark _)) (pss_one (ps_rs (takes_of rfl rfl rfl rfl) (pmk_iex D_BadTable_init (hr.mono (by decide)) (by rfl) (pa_cons (pv 1) pa_nil)) rfl)) pss_nil)
      (pss_one (ps_ret (pe_mth D_Table_moved (hr.mono (by decide)) (pv 0) (pa_cons (pv 1) (pa_cons (pv 2) pa_nil))))))), ?_⟩
  try dsimp only [cxOf, Cx.nox, Cx.wish]
  show (_ : TS) _ [some _, some _, some _] _
  o_readsAll
  refine c_crung h3 (fun a0 an => ?_) k2
  o_readsAll
  refine br (fun hm => ?_) (fun hm => ?_)
  · o_readsAll
    refine c_raise fun d H1 fd e1 hd => ?_
    exact k3 a0 an hm d H1 fd e1 hd
  · obtain ⟨a, rfl⟩ : ∃ a' : Nat, a = a' := ⟨a.toNat, by omega⟩
    o_readsAll
    exact c_tmoved ht n40 (by omega) (fun i hi => by have := h0 i hi; have := h0 a (by omega); unfold chg; split <;> omega) (k1 a rfl (by omega) (by omega))
def sp_ttake (C CL CB CT : Addr) : Sp := fun vs H Q E => ∃ (t : Addr) (a m L : Int) (n : Nat) (fs : Nat → Int) (ret : Bool) (cs : Nat → Int), vs = [.ref t, .int a, .int m] ∧ TabAt C CL H t L n fs ret cs ∧ n ≤ 40 ∧ (∀ i, i < n → 0 ≤ cs i) ∧ (∀ a' : Nat, a = a' → a' < n → 0 ≤ m → m ≤ cs a' → ∀ t' H', H t' = none → Same H H' → TabAt C CL H' t' L n fs ret (chg cs a' (0 - m)) → Q (.ref t') H') ∧ (¬ (0 ≤ a ∧ a < n) → RaiseI CB "rung" (.int a) H E) ∧ (∀ a' : Nat, a = a' → a' < n → (m < 0 ∨ cs a' < m) → RaiseI CT "rung" (.int a) H E)
theorem d_Table_take (T : Txt K w mg Z) : MthX P w K mg base 6 Z.a_Table "take" ["self", "a", "many"] (sp_ttake Z.a_Table Z.a_Ladder Z.a_BadLadder Z.a_BadTable) := by
  obtain ⟨f, fd, F, hm, hb⟩ := T.f_Table_take
  refine ⟨⟨f, fd, F.okX sc_Table_take (fun vs H Q E h => by first | (obtain ⟨rfl, _⟩ := h; rfl) | (obtain ⟨_, rfl, _⟩ := h; rfl) | (obtain ⟨_, _, rfl, _⟩ := h; rfl) | (obtain ⟨_, _, _, rfl, _⟩ := h; rfl) | (obtain ⟨_, _, _, _, rfl, _⟩ := h; rfl) | (obtain ⟨_, _, _, _, _, rfl, _⟩ := h; rfl) | (obtain ⟨_, _, _, _, _, _, rfl, _⟩ := h; rfl) | (obtain ⟨_, _, _, _, _, _, _, rfl, _⟩ := h; rfl) | (obtain ⟨_, _, _, _, _, _, _, _, rfl, _⟩ := h; rfl) | (obtain ⟨_, _, _, _, _, _, _, _, _, rfl, _⟩ := h; rfl) | (obtain ⟨_, _, _, _, _, _, _, _, _, _, rfl, _⟩ := h; rfl) | (obtain ⟨_, _, _, _, _, _, _, _, _, _, _, rfl, _⟩ := h; rfl) | (obtain ⟨_, _, _, _, _, _, _, _, _, _, _, _, rfl, _⟩ := h; rfl) | (obtain ⟨_, _, _, _, _, _, _, _, _, _, _, _, _, rfl, _⟩ := h; rfl) | (obtain ⟨_, _, _, _, _, _, _, _, _, _, _, _, _, _, rfl, _⟩ := h; rfl) | (obtain ⟨_, _, _, _, _, _, _, _, _, _, _, _, _, _, _, rfl, _⟩ := h; rfl) | (obtain ⟨_, _, _, _, _, _, _, _, _, _, _, _, _, _, _, _, rfl, _⟩ := h; rfl)) (fun cdv A outer s H vs Q E hr h => ?_), hm, hb⟩, T.l_Table⟩
  obtain ⟨t, a, m, L, n, fs, ret, cs, rfl, ht, n40, h0, k1, k2, k3⟩ := h
  have ht' := ht
  obtain ⟨dx, l, cl, h1, h2, h3⟩ := ht'
  have h3' := h3
  obtain ⟨ldx, fl, lt, hh, wl, ps, a1, _, _, _, _, _, _⟩ := h3'
  have D_Ladder_check_rung := d_Ladder_check_rung (P := P) (base := base) T
  have D_Table_moved := d_Table_moved (P := P) (base := base) T
  have D_BadTable_init := d_BadTable_init (P := P) (base := base) T
  have l_Table := T.l_Table
  have n_Table_ladder_kept := T.n_Table_ladder_kept
  have n_Table_counts_list := T.n_Table_counts_list
  refine ⟨_, (pss_cons (ps_expr (pe_mthS D_Ladder_check_rung (hr.mono (by decide)) (takes_of rfl rfl rfl rfl) (pe_fld (pv 0) rfl) (pa_cons (pv 1) pa_nil)))
      (pss_cons (ps_if (PW.pt (pw_or (pt_cmpR op_lt (pv 2) pe_int (nomark _)) (pw_or1 (pt_cmpR op_gt (pv 2) (pe_ix ix_seq (pe_fld (pv 0) rfl) (pv 1) (fun _ _ => rfl)) (nomark _))))) (pss_one (ps_rs (takes_of rfl rfl rfl rfl) (pmk_iex D_BadTable_init (hr.mono (by decide)) (by rfl) (pa_cons (pv 1) pa_nil)) rfl)) pss_nil)
      (pss_one (ps_ret (pe_mth D_Table_moved (hr.mono (by decide)) (pv 0) (pa_cons (pv 1) (pa_cons (pe_op op_sub pe_int (pv 2)) pa_nil))))))), ?_⟩
  try dsimp only [cxOf, Cx.nox, Cx.wish]
  show (_ : TS) _ [some _, some _, some _] _
  o_readsAll
  refine c_crung h3 (fun a0 an => ?_) k2
  obtain ⟨a, rfl⟩ : ∃ a' : Nat, a = a' := ⟨a.toNat, by omega⟩
  have han : a < n := by omega
  o_readsAll
  refine br (fun hm => ?_) (fun hm => ?_)
  · o_readsAll
    refine c_raise fun d H1 fd e1 hd => ?_
    exact k3 a rfl han (.inl hm) d H1 fd e1 hd
  · o_readsAll
    refine g_ixL h2.sq (atI_nat (rng_at han)) ?_
    o_readsAll
    refine br (fun hc => ?_) (fun hc => ?_)
    · o_readsAll
      refine c_raise fun d H1 fd e1 hd => ?_
      exact k3 a rfl han (.inr hc) d H1 fd e1 hd
    · o_readsAll
      exact c_tmoved ht n40 han (fun i hi => by have := h0 i hi; have := h0 a han; unfold chg; split <;> omega) (k1 a rfl han (by omega) (by omega))
/-- which rungs are level, from the top -/
def lvl (L : Int) (n : Nat) (cs : Nat → Int) : Nat → List Int
  | 0 => []
  | i + 1 => lvl L n cs i ++ (if L ≤ cs (n - 1 - i) then [((n - 1 - i : Nat) : Int)] else [])
def sp_tlevel (C CL : Addr) : Sp := fun vs H Q _ => ∃ (t : Addr) (L : Int) (n : Nat) (fs : Nat → Int) (ret : Bool) (cs : Nat → Int), vs = [.ref t] ∧ TabAt C CL H t L n fs ret cs ∧ n ≤ 40 ∧ ∀ p H', H p = none → Same H H' → H' p = some (.lst ((lvl L n cs n).map V.int)) → Q (.ref p) H'
theorem lvl_len (L : Int) (n : Nat) (cs : Nat → Int) : ∀ i, (lvl L n cs i).length ≤ i
  | 0 => Nat.le_refl 0
  | i + 1 => by
    have := lvl_len L n cs i
    simp only [lvl, List.length_append]
    split <;> simp <;> omega
theorem d_Table_level (T : Txt K w mg Z) : Mth P w K mg base 2 Z.a_Table "level" ["self"] (sp_tlevel Z.a_Table Z.a_Ladder) := by
  obtain ⟨f, fd, F, hm, hb⟩ := T.f_Table_level
  refine ⟨⟨f, fd, F.ok sc_Table_level (fun vs H Q E h => by first | (obtain ⟨rfl, _⟩ := h; rfl) | (obtain ⟨_, rfl, _⟩ := h; rfl) | (obtain ⟨_, _, rfl, _⟩ := h; rfl) | (obtain ⟨_, _, _, rfl, _⟩ := h; rfl) | (obtain ⟨_, _, _, _, rfl, _⟩ := h; rfl) | (obtain ⟨_, _, _, _, _, rfl, _⟩ := h; rfl) | (obtain ⟨_, _, _, _, _, _, rfl, _⟩ := h; rfl) | (obtain ⟨_, _, _, _, _, _, _, rfl, _⟩ := h; rfl) | (obtain ⟨_, _, _, _, _, _, _, _, rfl, _⟩ := h; rfl) | (obtain ⟨_, _, _, _, _, _, _, _, _, rfl, _⟩ := h; rfl) | (obtain ⟨_, _, _, _, _, _, _, _, _, _, rfl, _⟩ := h; rfl) | (obtain ⟨_, _, _, _, _, _, _, _, _, _, _, rfl, _⟩ := h; rfl) | (obtain ⟨_, _, _, _, _, _, _, _, _, _, _, _, rfl, _⟩ := h; rfl) | (obtain ⟨_, _, _, _, _, _, _, _, _, _, _, _, _, rfl, _⟩ := h; rfl) | (obtain ⟨_, _, _, _, _, _, _, _, _, _, _, _, _, _, rfl, _⟩ := h; rfl) | (obtain ⟨_, _, _, _, _, _, _, _, _, _, _, _, _, _, _, rfl, _⟩ := h; rfl) | (obtain ⟨_, _, _, _, _, _, _, _, _, _, _, _, _, _, _, _, rfl, _⟩ := h; rfl)) (fun cdv A outer s H vs Q E hr h => ?_), hm, hb⟩, T.l_Table⟩
  obtain ⟨t, L, n, fs, ret, cs, rfl, ⟨dx, l, cl, h1, h2, h3⟩, n40, k⟩ := h
  unfold IL at h2
  have h3' := h3
  obtain ⟨ldx, fl, lt, hh, wl, ps, a1, _, _, _, _, _, _⟩ := h3'
  have D_Ladder_lanes := d_Ladder_lanes (P := P) (base := base) T
  have l_Table := T.l_Table
  have n_Table_ladder_kept := T.n_Table_ladder_kept
  have n_Table_counts_list := T.n_Table_counts_list
  refine ⟨_, (pss_cons (ps_set (i := 1) sc_Table_level.nd rfl (.inr rfl) (pe_mth0 D_Ladder_lanes (hr.mono (by decide)) (pe_fld (pv 0) rfl)))
      (pss_cons (ps_set (i := 2) sc_Table_level.nd rfl (.inl rfl) (pe_callB call_uLen (by rfl) T.b_len bt_len (pa_cons (pe_fld (pv 0) rfl) pa_nil)))
      (pss_one (ps_ret (pe_lc (own := [("rung", 3)]) (by rfl) sc_Table_level.nd (pi_revR (by rfl) T.b_reversed (prg_1 (by rfl) T.b_range (pv 2))) (blkOk_by (N := n_Table_level) (sc := defScope st_Table_level) (by decide +kernel)) (fun _ _ _ _ _ => (pg_name (i := 3) sc_Table_level.nd rfl (.inl rfl))) (fun _ _ _ _ _ => (pts_one (pt_cmpR op_ge (pe_ix (ix_seqK (K := K) rfl) (pe_fldK (K := K) rfl (pv 0) rfl) (pv 3) (fun _ _ => rfl)) (pv 1) (nomark _)))) (fun _ _ _ _ _ => (pv 3))))))), ?_⟩
  try dsimp only [cxOf, Cx.nox, Cx.wish]
  show (_ : TS) _ [some _, none, none, none] _
  o_readsAll
  refine c_lnum h3 ?_
  o_readsAll
  rw [rng_len]
  refine l_itF walk_rangeC (fun D i acc H' => acc = (lvl L n cs i).map V.int ∧ Same H H') (fun D hD => ⟨rfl, Eg.Same.put (Same.refl _) hD⟩) (fun _ _ _ _ _ _ _ _ => trivial) (fun D i x acc H1 H' hD hi e p y => ?_) (fun D acc H' hD e p => ?_)
  · obtain ⟨y1, y2⟩ := y
    subst y1 y2
    obtain ⟨rfl, e1⟩ := p
    show gName 3 (V.int ((n : Int) - 1 + (i : Nat) * (-1))) _ _ _
    rw [show (n : Int) - 1 + (i : Nat) * (-1) = ((n - 1 - i : Nat) : Int) by omega]
    refine ⟨rfl, ?_⟩
    have h1e := e1 _ _ h1
    have h2e := e1 _ _ h2
    o_readsAll
    refine g_ixL (.of h2e) (atI_nat (rng_at (by omega))) ?_
    o_readsAll
    have hl := lvl_len L n cs i
    refine br (fun hc => ?_) (fun hc => ?_)
    · o_readsAll
      refine ⟨_, e, by rw [List.length_map, sizeLine_eq]; omega, ?_, Eg.Same.put e1 hD⟩
      rw [lvl, if_pos hc, List.map_append]
      rfl
    · refine ⟨_, e, ?_, e1⟩
      rw [lvl, if_neg hc, List.append_nil]
  · obtain ⟨rfl, e1⟩ := p
    exact k D H' hD e1 e
theorem c_tlevel {C CL t : Addr} {L : Int} {n : Nat} {fs : Nat → Int} {ret : Bool} {cs : Nat → Int} {H : Hp} {Q : VK} {E : XK} (h : TabAt C CL H t L n fs ret cs) (n40 : n ≤ 40) (k : ∀ p H', H p = none → Same H H' → H' p = some (.lst ((lvl L n cs n).map V.int)) → Q (.ref p) H') : sp_tlevel C CL [.ref t] H Q E := ⟨t, L, n, fs, ret, cs, rfl, h, n40, k⟩
end
end L25

namespace L25
set_option exponentiation.threshold 2000
open SX Ld
section
variable {P : Program} {w : World} {K : PySem.W.Frag} {mg : Str → Option Value} {base : Heap} {Z : Ad}
/-- the first place at which something holds -/
def fb (p : Nat → Prop) [DecidablePred p] : Nat → Option Nat
  | 0 => none
  | n + 1 => match fb p n with
    | some i => some i
    | none => if p n then some n else none
theorem fb_none {p : Nat → Prop} [DecidablePred p] : ∀ {n : Nat}, (∀ i, i < n → ¬ p i) → fb p n = none
  | 0, _ => rfl
  | n + 1, h => by
    show (match fb p n with | some i => some i | none => if p n then some n else none) = none
    rw [fb_none fun i hi => h i (by omega)]
    exact if_neg (h n (by omega))
theorem fb_at {p : Nat → Prop} [DecidablePred p] {i : Nat} (hp : p i) (h : ∀ j, j < i → ¬ p j) : ∀ {n : Nat}, i < n → fb p n = some i
  | 0, hi => by omega
  | n + 1, hi => by
    show (match fb p n with | some i => some i | none => if p n then some n else none) = some i
    by_cases e : i = n
    · subst e
      rw [fb_none h]
      exact if_pos hp
    · rw [fb_at hp h (n := n) (by omega)]
theorem fb_cases {p : Nat → Prop} [DecidablePred p] : ∀ (n : Nat), (fb p n = none ∧ ∀ i, i < n → ¬ p i) ∨ ∃ i, fb p n = some i ∧ i < n ∧ p i ∧ ∀ j, j < i → ¬ p j
  | 0 => .inl ⟨rfl, fun i hi => by omega⟩
  | n + 1 => by
    rcases fb_cases (p := p) n with ⟨h1, h2⟩ | ⟨i, h1, h2, h3, h4⟩
    · by_cases hn : p n
      · exact .inr ⟨n, fb_at hn h2 (by omega), by omega, hn, h2⟩
      · refine .inl ⟨fb_none fun i hi => ?_, fun i hi => ?_⟩ <;>
        · by_cases e : i = n
          · rw [e]; exact hn
          · exact h2 i (by omega)
    · exact .inr ⟨i, fb_at h3 h4 (by omega), by omega, h3, h4⟩
/-- from the end: the least one met so far -/
def lastB (p : Nat → Prop) (n m : Nat) (o : Option Nat) : Prop := match o with
  | none => ∀ j, m ≤ j → j < n → ¬ p j
  | some r => m ≤ r ∧ r < n ∧ p r ∧ ∀ j, m ≤ j → j < r → ¬ p j
theorem lastB_fb {p : Nat → Prop} [DecidablePred p] {n : Nat} {o : Option Nat} (h : lastB p n 0 o) : o = fb p n := by
  cases o with
  | none => exact (fb_none fun i hi => h i (by omega) hi).symm
  | some r => exact (fb_at h.2.2.1 (fun j hj => h.2.2.2 j (by omega) hj) h.2.1).symm
theorem lastB_yes {p : Nat → Prop} {n m : Nat} {o : Option Nat} (h : lastB p n (m + 1) o) (hm : m < n) (hp : p m) : lastB p n m (some m) := ⟨by omega, hm, hp, fun j h1 h2 => by omega⟩
theorem lastB_no {p : Nat → Prop} {n m : Nat} {o : Option Nat} (h : lastB p n (m + 1) o) (hp : ¬ p m) : lastB p n m o := by
  have q : ∀ j, (j ≠ m → ¬ p j) → ¬ p j := fun j h => by
    by_cases e : j = m
    · rw [e]; exact hp
    · exact h e
  cases o with
  | none => exact fun j h1 h2 => q j fun e => h j (by omega) h2
  | some r => exact ⟨by have := h.1; omega, h.2.1, h.2.2.1, fun j h1 h2 => q j fun e => h.2.2.2 j (by omega) h2⟩
theorem lastB_start (p : Nat → Prop) (n : Nat) : lastB p n n none := fun j h1 h2 => by omega
end
end L25

namespace L25
set_option exponentiation.threshold 2000
open SX Ld
section
variable {P : Program} {w : World} {K : PySem.W.Frag} {mg : Str → Option Value} {base : Heap} {Z : Ad}
/-- which rung is called too often -/
def over (cs : Nat → Int) (rs : List Int) (i : Nat) : Prop := cs i < (rs.count (i : Int) : Nat)
instance (cs : Nat → Int) (rs : List Int) : DecidablePred (over cs rs) := fun i => by unfold over; infer_instance
/-- why a meeting is refused -/
def mfault (L : Int) (n : Nat) (cs : Nat → Int) (rs : List Int) (at_ : Int) : Option Int := if (rs.length : Int) ≠ L ∨ ¬ (0 ≤ at_ ∧ at_ < L) ∨ ¬ (∀ r ∈ rs, 0 ≤ r ∧ r < n) then some (-1) else Option.map (fun (i : Nat) => (i : Int)) (fb (over cs rs) n)
def sp_cc (C CL CT : Addr) : Sp := fun vs H Q E => ∃ (t rl : Addr) (at_ L : Int) (n : Nat) (fs : Nat → Int) (ret : Bool) (cs : Nat → Int) (rs : List Int), vs = [.ref t, .ref rl, .int at_] ∧ TabAt C CL H t L n fs ret cs ∧ n ≤ 40 ∧ H rl = some (.lst (rs.map V.int)) ∧ rs.length ≤ 1000 ∧ (mfault L n cs rs at_ = none → ∀ H', Same H H' → Q .non H') ∧ (∀ r, mfault L n cs rs at_ = some r → RaiseI CT "rung" (.int r) H E)
theorem d_Table_check_called (T : Txt K w mg Z) : MthX P w K mg base 3 Z.a_Table "check_called" ["self", "rungs", "at"] (sp_cc Z.a_Table Z.a_Ladder Z.a_BadTable) := by
  obtain ⟨f, fd, F, hm, hb⟩ := T.f_Table_check_called
  refine ⟨⟨f, fd, F.okX sc_Table_check_called (fun vs H Q E h => by first | (obtain ⟨rfl, _⟩ := h; rfl) | (obtain ⟨_, rfl, _⟩ := h; rfl) | (obtain ⟨_, _, rfl, _⟩ := h; rfl) | (obtain ⟨_, _, _, rfl, _⟩ := h; rfl) | (obtain ⟨_, _, _, _, rfl, _⟩ := h; rfl) | (obtain ⟨_, _, _, _, _, rfl, _⟩ := h; rfl) | (obtain ⟨_, _, _, _, _, _, rfl, _⟩ := h; rfl) | (obtain ⟨_, _, _, _, _, _, _, rfl, _⟩ := h; rfl) | (obtain ⟨_, _, _, _, _, _, _, _, rfl, _⟩ := h; rfl) | (obtain ⟨_, _, _, _, _, _, _, _, _, rfl, _⟩ := h; rfl) | (obtain ⟨_, _, _, _, _, _, _, _, _, _, rfl, _⟩ := h; rfl) | (obtain ⟨_, _, _, _, _, _, _, _, _, _, _, rfl, _⟩ := h; rfl) | (obtain ⟨_, _, _, _, _, _, _, _, _, _, _, _, rfl, _⟩ := h; rfl) | (obtain ⟨_, _, _, _, _, _, _, _, _, _, _, _, _, rfl, _⟩ := h; rfl) | (obtain ⟨_, _, _, _, _, _, _, _, _, _, _, _, _, _, rfl, _⟩ := h; rfl) | (obtain ⟨_, _, _, _, _, _, _, _, _, _, _, _, _, _, _, rfl, _⟩ := h; rfl) | (obtain ⟨_, _, _, _, _, _, _, _, _, _, _, _, _, _, _, _, rfl, _⟩ := h; rfl)) (fun cdv A outer s H vs Q E hr h => ?_), hm, hb⟩, T.l_Table⟩
  obtain ⟨t, rl, at_, L, n, fs, ret, cs, rs, rfl, ⟨dx, l, cl, h1, h2, h3⟩, n40, hrl, hrs, k1, k2⟩ := h
  unfold IL at h2
  have h3' := h3
  obtain ⟨ldx, fl, lt, hh, wl, ps, a1, _, _, _, _, _, _⟩ := h3'
  have D_Ladder_lanes := d_Ladder_lanes (P := P) (base := base) T
  have D_BadTable_init := d_BadTable_init (P := P) (base := base) T
  have l_Table := T.l_Table
  have n_Table_ladder_kept := T.n_Table_ladder_kept
  have n_Table_counts_list := T.n_Table_counts_list
  refine ⟨_, (pss_cons (ps_set (i := 3) sc_Table_check_called.nd rfl (.inl rfl) (pe_mth0 D_Ladder_lanes (hr.mono (by decide)) (pe_fld (pv 0) rfl)))
      (pss_cons (ps_set (i := 4) sc_Table_check_called.nd rfl (.inl rfl) (pe_callB (cr_all rfl) (by rfl) T.b_all bt_all (pa_cons (pe_lc (own := [("rung", 5)]) (by rfl) sc_Table_check_called.nd (pi_list (pv 1)) (blkOk_by (N := n_Table_check_called) (sc := defScope st_Table_check_called) (by decide +kernel)) (fun _ _ _ _ _ => (pg_name (i := 5) sc_Table_check_called.nd rfl (.inl rfl))) (fun _ _ _ _ _ => pts_nil) (fun _ _ _ _ _ => (pe_chain op_le op_lt pe_int (pv 5) (pe_callB (call_uLenK (K := K) rfl) (by rfl) T.b_len bt_len (pa_cons (pe_fldK (K := K) rfl (pv 0) rfl) pa_nil))))) pa_nil)))
      (pss_cons (ps_if (PW.pt (pw_or (pt_cmpR (op_uNe hr.units) (pe_callB call_uLen (by rfl) T.b_len bt_len (pa_cons (pv 1) pa_nil)) (pv 3) (nomark _)) (pw_or (pt_not (pt_u (pv 4))) (pw_or1 (pt_not (pt_chain op_le op_lt pe_int (pv 2) (pv 3))))))) (pss_one (ps_rs (takes_of rfl rfl rfl rfl) (pmk_iex D_BadTable_init (hr.mono (by decide)) (by rfl) (pa_cons (pe_un un_neg pe_int) pa_nil)) rfl)) pss_nil)
      (pss_one (ps_for (passes_of rfl) rfl (pi_enum (by rfl) T.b_enumerate (pa_cons (pe_fld (pv 0) rfl) pa_nil)) (pg_tup (by rfl) (pgs_cons (pg_name (i := 5) sc_Table_check_called.nd rfl (.inl rfl)) (pgs_cons (pg_name (i := 6) sc_Table_check_called.nd rfl (.inl rfl)) pgs_nil)))
        (pss_one (ps_if (pt_cmpR op_gt (pe_bm PySem.F.plainAttrs_list PySem.F.slot_list_count PySem.F.type_list_count mt_lcount (pv 1) (pa_cons (pv 5) pa_nil)) (pv 6) (nomark _)) (pss_one (ps_rs (takes_of rfl rfl rfl rfl) (pmk_iex D_BadTable_init (hr.mono (by decide)) (by rfl) (pa_cons (pv 5) pa_nil)) rfl)) pss_nil))))))), ?_⟩
  try dsimp only [cxOf, Cx.nox, Cx.wish]
  show (_ : TS) _ [some _, some _, some _, none, none, none, none] _
  o_readsAll
  refine c_lnum h3 ?_
  o_readsAll
  refine l_lstP (fun i => .bl (decide (0 ≤ fn rs i ∧ fn rs i < n))) (.of hrl) (fun x => rfl) (fun D i x H' hx hD e hl => ?_) fun q H1 fq e1 hq => ?_
  · rw [List.getElem?_map] at hx
    obtain ⟨r, hr1, rfl⟩ := Option.map_eq_some_iff.mp hx
    have hi := (List.getElem?_eq_some_iff.mp hr1).1
    have hfn := fn_at hr1
    have h1e := e _ _ h1
    have h2e := e _ _ h2
    o_readsAll
    refine ⟨_, rfl, ?_⟩
    refine br (fun hc => ?_) (fun hc => ?_)
    · o_readsAll
      rw [rng_len]
      exact g_itemP e hl hD (by rw [sizeLine_eq]; omega) (by rw [hfn]; exact congrArg V.bl (by rw [decide_eq_decide]; exact ⟨fun z => ⟨hc, z⟩, fun z => z.2⟩))
    · exact g_itemP e hl hD (by rw [sizeLine_eq]; omega) (by rw [hfn]; exact congrArg V.bl (decide_eq_false fun z => hc z.1).symm)
  · rw [List.length_map] at hq
    have hq' : H1 q = some (.lst (((List.range rs.length).map fun i => decide (0 ≤ fn rs i ∧ fn rs i < n)).map V.bl)) := by rw [hq, List.map_map]; rfl
    o_readsAll
    refine g_allB (.of hq') ?_
    have hall : (((List.range rs.length).map fun i => decide (0 ≤ fn rs i ∧ fn rs i < n)).all id) = decide (∀ r ∈ rs, 0 ≤ r ∧ r < n) := by
      rw [Bool.eq_iff_iff, List.all_map, decide_eq_true_iff, List.all_eq_true]
      refine ⟨fun h r hr => ?_, fun h i hi => ?_⟩
      · obtain ⟨i, hi, rfl⟩ := List.mem_iff_getElem.mp hr
        have := h i (List.mem_range.mpr hi)
        rw [← fn_at (List.getElem?_eq_getElem hi)]
        exact of_decide_eq_true this
      · have hi' := List.mem_range.mp hi
        refine decide_eq_true ?_
        rw [fn_at (List.getElem?_eq_getElem hi')]
        exact h _ (List.getElem_mem _)
    rw [hall]
    have hrl1 := e1 _ _ hrl
    have h21 := e1 _ _ h2
    have h11 := e1 _ _ h1
    o_readsAll
    rw [List.length_map]
    have bad : ∀ {H' : Hp} {d : Addr}, ((rs.length : Int) ≠ L ∨ ¬ (0 ≤ at_ ∧ at_ < L) ∨ ¬ (∀ r ∈ rs, 0 ≤ r ∧ r < n)) → H' = H' → Same H H' → H d = none → H' d = some (.xd [("rung", .int (-1))]) → E (.ref Z.a_BadTable) (some d) H' := fun {H' d} hc _ e hd hx => k2 (-1) (if_pos hc) d H' hd e hx
    refine brn (fun g1 => ?_) (fun g1 => ?_)
    · o_readsAll
      refine c_raise fun d H2 fd e2 hd => ?_
      exact bad (.inl g1) rfl (e1.trans e2) (e1.free fd) hd
    · o_readsAll
      refine brn (fun g2 => ?_) (fun g2 => ?_)
      · o_readsAll
        refine c_raise fun d H2 fd e2 hd => ?_
        exact bad (.inr (.inr g2)) rfl (e1.trans e2) (e1.free fd) hd
      · o_readsAll
        refine ⟨_, rfl, ?_⟩
        refine br (fun g3 => ?_) (fun g3 => ?_)
        · o_readsAll
          refine brn (fun g4 => ?_) (fun g4 => ?_)
          · o_readsAll
            refine c_raise fun d H2 fd e2 hd => ?_
            exact bad (.inr (.inl fun z => g4 z.2)) rfl (e1.trans e2) (e1.free fd) hd
          · have hmf : mfault L n cs rs at_ = Option.map (fun (i : Nat) => (i : Int)) (fb (over cs rs) n) := if_neg (fun z => z.elim (fun z => z g1) fun z => z.elim (fun z => z ⟨g3, g4⟩) fun z => z g2)
            rw [hmf] at k1 k2
            o_readsAll
            refine f_enum (xs := rng n cs) (fun i σ' H' => ∃ a b, σ' = [some (.ref t), some (.ref rl), some (.int at_), some (.int L), some (.bl (decide (∀ (r : Int), r ∈ rs → 0 ≤ r ∧ r < (n : Int)))), a, b] ∧ Same H1 H' ∧ ∀ j, j < i → ¬ over cs rs j) ⟨_, _, rfl, Same.refl _, fun j hj => by omega⟩ ?_ ?_ ?_
            · rintro i σ' H2 hi ⟨a, b, rfl, e2, _⟩
              exact .of (e2 _ _ h21)
            · rintro i y σ' H2 T1 H3 hy ⟨a, b, rfl, e2, hp⟩ hT e3 h3
              have hi : i < n := by have := (List.getElem?_eq_some_iff.mp hy).1; rw [rng_len] at this; exact this
              rw [rng_at hi] at hy
              cases hy
              have hrl3 := (e2.trans e3) _ _ hrl1
              have e13 := e1.trans (e2.trans e3)
              o_readsAll
              refine g_countI (.of hrl3) ?_
              o_readsAll
              refine br (fun hb => ?_) (fun hb => ?_)
              · o_readsAll
                refine c_raise fun d H4 fd e4 hd => ?_
                exact k2 (i : Int) (by rw [fb_at (show over cs rs i from hb) hp hi]; rfl) d H4 (e13.free fd) (e13.trans e4) hd
              · o_readsAll
                exact ⟨_, _, rfl, e2.trans e3, fun j hj => by
                  by_cases e : j = i
                  · rw [e]; exact hb
                  · exact hp j (by omega)⟩
            · rintro σ' H2 ⟨a, b, rfl, e2, hp⟩
              rw [rng_len] at hp
              o_readsAll
              exact k1 (by rw [fb_none hp]; rfl) _ (e1.trans e2)
        · o_readsAll
          refine c_raise fun d H2 fd e2 hd => ?_
          exact bad (.inr (.inl fun z => g3 z.1)) rfl (e1.trans e2) (e1.free fd) hd
theorem c_cc {C CL CT t rl : Addr} {at_ L : Int} {n : Nat} {fs : Nat → Int} {ret : Bool} {cs : Nat → Int} {rs : List Int} {H : Hp} {Q : VK} {E : XK} (h : TabAt C CL H t L n fs ret cs) (n40 : n ≤ 40) (hrl : H rl = some (.lst (rs.map V.int))) (hrs : rs.length ≤ 1000) (k1 : mfault L n cs rs at_ = none → ∀ H', Same H H' → Q .non H') (k2 : ∀ r, mfault L n cs rs at_ = some r → RaiseI CT "rung" (.int r) H E) : sp_cc C CL CT [.ref t, .ref rl, .int at_] H Q E := ⟨t, rl, at_, L, n, fs, ret, cs, rs, rfl, h, n40, hrl, hrs, k1, k2⟩
/-- where a player goes -/
def tgt (n : Nat) (fs : Nat → Int) (ret : Bool) (at_ : Int) (i : Nat) (r : Int) : Int := if (if (i : Int) = at_ then r + 1 else fs r.toNat) = n then (if ret then 0 else -1) else (if (i : Int) = at_ then r + 1 else fs r.toNat)
/-- one player moved -/
def bst (cs : Nat → Int) (r t : Int) (j : Nat) : Int := cs j - (if (j : Int) = r then 1 else 0) + (if (j : Int) = t then 1 else 0)
/-- the counts when so many players have been moved -/
def bhN (n : Nat) (fs : Nat → Int) (ret : Bool) (at_ : Int) (rs : List Int) (cs : Nat → Int) : Nat → Nat → Int
  | 0 => cs
  | i + 1 => bst (bhN n fs ret at_ rs cs i) (fn rs i) (tgt n fs ret at_ i (fn rs i))
theorem bhN_ge (n : Nat) (fs : Nat → Int) (ret : Bool) (at_ : Int) (rs : List Int) (cs : Nat → Int) (j : Nat) : ∀ i, i ≤ rs.length → cs j - ((rs.take i).count (j : Int) : Nat) ≤ bhN n fs ret at_ rs cs i j
  | 0, _ => by simp [bhN]
  | i + 1, hi => by
    have ih := bhN_ge n fs ret at_ rs cs j i (by omega)
    have e := List.getElem?_eq_getElem (l := rs) (i := i) (by omega)
    have hfn := fn_at e
    rw [List.take_succ, e, List.count_append]
    show _ ≤ bst (bhN n fs ret at_ rs cs i) (fn rs i) (tgt n fs ret at_ i (fn rs i)) j
    unfold bst
    rw [hfn]
    simp only [Option.toList_some, List.count_singleton, beq_iff_eq]
    generalize rs[i] = r at *
    split <;> split <;> split <;> omega
theorem mf_none {L : Int} {n : Nat} {cs : Nat → Int} {rs : List Int} {at_ : Int} (h : mfault L n cs rs at_ = none) : (rs.length : Int) = L ∧ 0 ≤ at_ ∧ at_ < L ∧ (∀ r ∈ rs, 0 ≤ r ∧ r < n) ∧ ∀ i, i < n → (rs.count (i : Int) : Nat) ≤ cs i := by
  unfold mfault at h
  split at h
  · cases h
  · rename_i hc
    have h1 : (rs.length : Int) = L := Decidable.byContradiction fun z => hc (.inl z)
    have h2 : 0 ≤ at_ ∧ at_ < L := Decidable.byContradiction fun z => hc (.inr (.inl z))
    have h3 : ∀ r ∈ rs, 0 ≤ r ∧ r < n := Decidable.byContradiction fun z => hc (.inr (.inr z))
    refine ⟨h1, h2.1, h2.2, h3, fun i hi => ?_⟩
    rcases fb_cases (p := over cs rs) n with ⟨_, hb⟩ | ⟨j, e, _⟩
    · exact Int.not_lt.mp (hb i hi)
    · rw [e] at h; cases h
theorem bhN_nn {L : Int} {n : Nat} {fs : Nat → Int} {ret : Bool} {cs : Nat → Int} {rs : List Int} {at_ : Int} (h : mfault L n cs rs at_ = none) {i : Nat} (hi : i ≤ rs.length) : ∀ j, j < n → 0 ≤ bhN n fs ret at_ rs cs i j := fun j hj => by
  have h1 := (mf_none h).2.2.2.2 j hj
  have h2 := bhN_ge n fs ret at_ rs cs j i hi
  have h3 : (rs.take i).count (j : Int) ≤ rs.count (j : Int) := (List.take_sublist i rs).count_le _
  omega
def sp_behind (C CL CT : Addr) : Sp := fun vs H Q E => ∃ (t rl : Addr) (at_ L : Int) (n : Nat) (fs : Nat → Int) (ret : Bool) (cs : Nat → Int) (rs : List Int), vs = [.ref t, .ref rl, .int at_] ∧ TabAt C CL H t L n fs ret cs ∧ n ≤ 40 ∧ OkF fs ∧ H rl = some (.lst (rs.map V.int)) ∧ rs.length ≤ 1000 ∧
  (mfault L n cs rs at_ = none → ∀ p t' H', H p = none → H t' = none → Same H H' → H' p = some (.tup [.ref t', .bl (decide (fn rs at_.toNat + 1 = n))]) → TabAt C CL H' t' L n fs ret (bhN n fs ret at_ rs cs rs.length) → (∃ dx l dx' cl cl', H t = some (.ins C dx [("ladder_kept", .ref l), ("counts_list", .ref cl)]) ∧ H cl' = none ∧ H' t' = some (.ins C dx' [("ladder_kept", .ref l), ("counts_list", .ref cl')]) ∧ IL H' cl' n (bhN n fs ret at_ rs cs rs.length)) → Q (.ref p) H') ∧ (∀ r, mfault L n cs rs at_ = some r → RaiseI CT "rung" (.int r) H E)
theorem d_Table_behind (T : Txt K w mg Z) : MthX P w K mg base 5 Z.a_Table "behind" ["self", "rungs", "at"] (sp_behind Z.a_Table Z.a_Ladder Z.a_BadTable) := by
  obtain ⟨f, fd, F, hm, hb⟩ := T.f_Table_behind
  refine ⟨⟨f, fd, F.okX sc_Table_behind (fun vs H Q E h => by first | (obtain ⟨rfl, _⟩ := h; rfl) | (obtain ⟨_, rfl, _⟩ := h; rfl) | (obtain ⟨_, _, rfl, _⟩ := h; rfl) | (obtain ⟨_, _, _, rfl, _⟩ := h; rfl) | (obtain ⟨_, _, _, _, rfl, _⟩ := h; rfl) | (obtain ⟨_, _, _, _, _, rfl, _⟩ := h; rfl) | (obtain ⟨_, _, _, _, _, _, rfl, _⟩ := h; rfl) | (obtain ⟨_, _, _, _, _, _, _, rfl, _⟩ := h; rfl) | (obtain ⟨_, _, _, _, _, _, _, _, rfl, _⟩ := h; rfl) | (obtain ⟨_, _, _, _, _, _, _, _, _, rfl, _⟩ := h; rfl) | (obtain ⟨_, _, _, _, _, _, _, _, _, _, rfl, _⟩ := h; rfl) | (obtain ⟨_, _, _, _, _, _, _, _, _, _, _, rfl, _⟩ := h; rfl) | (obtain ⟨_, _, _, _, _, _, _, _, _, _, _, _, rfl, _⟩ := h; rfl) | (obtain ⟨_, _, _, _, _, _, _, _, _, _, _, _, _, rfl, _⟩ := h; rfl) | (obtain ⟨_, _, _, _, _, _, _, _, _, _, _, _, _, _, rfl, _⟩ := h; rfl) | (obtain ⟨_, _, _, _, _, _, _, _, _, _, _, _, _, _, _, rfl, _⟩ := h; rfl) | (obtain ⟨_, _, _, _, _, _, _, _, _, _, _, _, _, _, _, _, rfl, _⟩ := h; rfl)) (fun cdv A outer s H vs Q E hr h => ?_), hm, hb⟩, T.l_Table⟩
  obtain ⟨t, rl, at_, L, n, fs, ret, cs, rs, rfl, ht, n40, ok, hrl, hrs, k1, k2⟩ := h
  have ht' := ht
  obtain ⟨dx, l, cl, h1, h2, h3⟩ := ht'
  unfold IL at h2
  have h3' := h3
  obtain ⟨ldx, fl, lt, hh, wl, ps, a1, _, _, _, _, _, _⟩ := h3'
  have D_Table_check_called := d_Table_check_called (P := P) (base := base) T
  have D_Table_init := d_Table_init (P := P) (base := base) T
  have D_Ladder_fall := d_Ladder_fall (P := P) (base := base) T
  have D_Ladder_returns := d_Ladder_returns (P := P) (base := base) T
  have l_Table := T.l_Table
  have n_Table_ladder_kept := T.n_Table_ladder_kept
  have n_Table_counts_list := T.n_Table_counts_list
  refine ⟨_, (pss_cons (ps_expr (pe_mthS D_Table_check_called (hr.mono (by decide)) (takes_of rfl rfl rfl rfl) (pv 0) (pa_cons (pv 1) (pa_cons (pv 2) pa_nil))))
      (pss_cons (ps_set (i := 3) sc_Table_behind.nd rfl (.inl rfl) (pe_callTy call_uList (by rfl) T.b_list bt_list (pa_cons (pe_fld (pv 0) rfl) pa_nil)))
      (pss_cons (ps_for (passes_of rfl) rfl (pi_enum (by rfl) T.b_enumerate (pa_cons (pv 1) pa_nil)) (pg_tup (by rfl) (pgs_cons (pg_name (i := 4) sc_Table_behind.nd rfl (.inl rfl)) (pgs_cons (pg_name (i := 5) sc_Table_behind.nd rfl (.inl rfl)) pgs_nil)))
        (pss_cons (ps_asg (pe_op op_sub (pe_ix ix_seq (pv 3) (pv 5) (fun _ _ => rfl)) pe_int) (pg_sub (pv 3) (pv 5) set_list))
      (pss_cons (ps_set (i := 6) sc_Table_behind.nd rfl (.inl rfl) (pe_ifExp (pt_cmpR (op_uEq hr.units) (pv 4) (pv 2) (nomark _)) (pe_op op_uAdd (pv 5) pe_int) (pe_mthS D_Ladder_fall (hr.mono (by decide)) (takes_of rfl rfl rfl rfl) (pe_fld (pv 0) rfl) (pa_cons (pv 5) pa_nil))))
      (pss_cons (ps_if (pt_cmpR (op_uEq hr.units) (pv 6) (pe_callB call_uLen (by rfl) T.b_len bt_len (pa_cons (pv 3) pa_nil)) (nomark _)) (pss_one (ps_set (i := 6) sc_Table_behind.nd rfl (.inl rfl) (pe_ifExp (pt_u (pe_mth0 D_Ladder_returns (hr.mono (by decide)) (pe_fld (pv 0) rfl))) pe_int (pe_gi T.c_OUT)))) pss_nil)
      (pss_one (ps_if (pt_cmpR (op_uNe hr.units) (pv 6) (pe_gi T.c_OUT) (nomark _)) (pss_one (ps_asg (pe_op op_uAdd (pe_ix ix_seq (pv 3) (pv 6) (fun _ _ => rfl)) pe_int) (pg_sub (pv 3) (pv 6) set_list))) pss_nil))))))
      (pss_cons (ps_set (i := 7) sc_Table_behind.nd rfl (.inl rfl) (pe_cmpR (op_uEq hr.units) (pe_op op_uAdd (pe_ix ix_seq (pv 1) (pv 2) (fun _ _ => rfl)) pe_int) (pe_callB call_uLen (by rfl) T.b_len bt_len (pa_cons (pv 3) pa_nil)) (nomark _)))
      (pss_one (ps_ret (pe_tup (pa_cons (pe_ini D_Table_init (hr.mono (by decide)) (by rfl) (pa_cons (pe_fld (pv 0) rfl) (pa_cons (pv 3) pa_nil))) (pa_cons (pv 7) pa_nil))))))))), ?_⟩
  try dsimp only [cxOf, Cx.nox, Cx.wish]
  show (_ : TS) _ [some _, some _, some _, none, none, none, none, none] _
  o_readsAll
  refine c_cc ht n40 hrl hrs (fun hm H1 e1 => ?_) k2
  obtain ⟨mL, m0, m1, mr, mc⟩ := mf_none hm
  have h11 := e1 _ _ h1
  have h21 := e1 _ _ h2
  have hrl1 := e1 _ _ hrl
  have a11 := e1 _ _ a1
  o_readsAll
  rename_i q H2 fq e2 hq N2 hN2
  have e02 := e1.trans e2
  have hrl2 := e2 _ _ hrl1
  refine f_enum (xs := rs.map V.int) (fun i σ' H' => ∃ a b c, σ' = [some (.ref t), some (.ref rl), some (.int at_), some (.ref q), a, b, c, none] ∧ Same H1 H' ∧ IL H' q n (bhN n fs ret at_ rs cs i)) ⟨_, _, _, rfl, e2, hq⟩ ?_ ?_ ?_
  · rintro i σ' H3 hi ⟨a, b, c, rfl, e3, h3q⟩
    exact .of (e3 _ _ hrl1)
  · rintro i y σ' H3 T1 H4 hy ⟨a, b, c, rfl, e3, h3q⟩ hT e4 h4
    rw [List.getElem?_map] at hy
    obtain ⟨r, hri, rfl⟩ := Option.map_eq_some_iff.mp hy
    have hi : i < rs.length := (List.getElem?_eq_some_iff.mp hri).1
    have hfn := fn_at hri
    obtain ⟨r0, rn⟩ := mr r (List.mem_of_getElem? hri)
    obtain ⟨r, rfl⟩ : ∃ a' : Nat, r = a' := ⟨r.toNat, by omega⟩
    have hrn : r < n := by omega
    have h4q := h3q.same e4
    have okr := ok r
    have hnext : bhN n fs ret at_ rs cs (i + 1) = bst (bhN n fs ret at_ rs cs i) (r : Int) (tgt n fs ret at_ i (r : Int)) := by
      show bst (bhN n fs ret at_ rs cs i) (fn rs i) (tgt n fs ret at_ i (fn rs i)) = _
      rw [hfn]
    have htg : tgt n fs ret at_ i (r : Int) = if (if (i : Int) = at_ then (r : Int) + 1 else fs r) = n then (if ret then 0 else -1) else (if (i : Int) = at_ then (r : Int) + 1 else fs r) := by
      unfold tgt
      rw [Int.toNat_natCast]
    obtain ⟨t0, ht0⟩ : ∃ t0 : Int, t0 = (if (i : Int) = at_ then (r : Int) + 1 else fs r) := ⟨_, rfl⟩
    obtain ⟨t1, ht1⟩ : ∃ t1 : Int, t1 = (if t0 = n then (if ret then 0 else -1) else t0) := ⟨_, rfl⟩
    rw [← ht0, ← ht1] at htg
    rw [htg] at hnext
    rw [hnext]
    clear htg hnext
    have hto : -1 ≤ t0 ∧ t0 ≤ n := by rw [ht0]; split <;> omega
    have htn1 : -1 ≤ t1 ∧ t1 < n := by
      rw [ht1]
      split
      · cases ret <;> simp <;> omega
      · omega
    generalize bhN n fs ret at_ rs cs i = bc at *
    have e14 := e3.trans e4
    o_readsAll
    refine g_ixL h4q.sq (atI_nat (rng_at hrn)) ?_
    o_readsAll
    refine g_setL h4q (by rw [rng_len]; exact ixN_at hrn) (rng_set n r _ _) ?_
    have e1u : Same H1 (upd H4 q (.lst (rng n fun j => if j = r then bc r - 1 else bc j))) := Eg.Same.put e14 fq
    have hu : IL (upd H4 q (.lst (rng n fun j => if j = r then bc r - 1 else bc j))) q n (fun j => if j = r then bc r - 1 else bc j) := upd_same
    generalize upd H4 q (.lst (rng n fun j => if j = r then bc r - 1 else bc j)) = H5 at *
    have h15 := e1u _ _ h11
    have a15 := e1u _ _ a11
    have hl5 := (h3.same e1).same e1u
    o_readsAll
    refine jnE (fun x H' => x = .int t0 ∧ H' = H5) ?_ (fun Q' hQ => br (fun hc => ?_) (fun hc => ?_))
    · rintro x H' ⟨rfl, rfl⟩
      have hu' := hu
      unfold IL at hu'
      o_readsAll
      rw [rng_len]
      refine jnS (fun (σ' : L2.St) (H'' : Hp) => σ' = [some (.ref t), some (.ref rl), some (.int at_), some (.ref q), some (.int (i : Int)), some (.int (r : Int)), some (.int t1), none] ∧ H'' = H') ?_ (fun N hN => br (fun hk => ?_) (fun hk => ?_))
      · rintro σ' H'' ⟨rfl, rfl⟩
        o_readsAll
        refine brn (fun hk => ?_) (fun hk => ?_)
        · obtain ⟨t1, rfl⟩ : ∃ a' : Nat, t1 = a' := ⟨t1.toNat, by omega⟩
          have htn : t1 < n := by omega
          clear ht1
          o_readsAll
          refine g_ixL hu.sq (atI_nat (rng_at htn)) ?_
          o_readsAll
          refine g_setL hu (by rw [rng_len]; exact ixN_at htn) (rng_set n t1 _ _) ?_
          refine ⟨_, _, _, rfl, Eg.Same.put e1u fq, ?_⟩
          unfold IL
          rw [upd_same]
          refine congrArg (fun z => some (HO.lst z)) (rng_congr fun j hj => ?_)
          unfold bst
          by_cases hj1 : j = t1
          · subst hj1
            by_cases hj2 : j = r
            · subst hj2
              simp
            · simp [hj2, show ¬ ((j : Int) = (r : Int)) from fun z => hj2 (by omega)]
          · by_cases hj2 : j = r
            · subst hj2
              simp [hj1, show ¬ ((j : Int) = (t1 : Int)) from fun z => hj1 (by omega)]
            · simp [hj1, hj2, show ¬ ((j : Int) = (t1 : Int)) from fun z => hj1 (by omega), show ¬ ((j : Int) = (r : Int)) from fun z => hj2 (by omega)]
        · o_readsAll
          refine ⟨_, _, _, rfl, e1u, ?_⟩
          unfold IL at hu ⊢
          rw [hu]
          refine congrArg (fun z => some (HO.lst z)) (rng_congr fun j hj => ?_)
          unfold bst
          by_cases hj2 : j = r <;> simp [hj2] <;> omega
      · o_readsAll
        refine c_lnum hl5 ?_
        o_readsAll
        refine brB (fun hb => ?_) (fun hb => ?_)
        · o_readsAll
          exact ⟨by rw [ht1, if_pos hk, if_pos hb]; rfl, rfl⟩
        · o_readsAll
          exact ⟨by rw [ht1, if_pos hk, hb]; rfl, rfl⟩
      · o_readsAll
        exact ⟨by rw [ht1, if_neg hk]; rfl, rfl⟩
    · o_readsAll
      exact hQ _ _ ⟨by rw [ht0, if_pos hc], rfl⟩
    · o_readsAll
      refine c_lfall hl5 hrn ?_
      exact hQ _ _ ⟨by rw [ht0, if_neg hc], rfl⟩
  · rintro σ' H3 ⟨a, b, c, rfl, e3, h3q⟩
    rw [List.length_map] at h3q
    have hrl3 := e3 _ _ hrl1
    have h13 := e3 _ _ h11
    have h3q' := h3q
    unfold IL at h3q'
    obtain ⟨at_, rfl⟩ : ∃ a' : Nat, at_ = a' := ⟨at_.toNat, by omega⟩
    have hat : at_ < rs.length := by omega
    have hra := List.getElem?_eq_getElem (l := rs) (i := at_) hat
    rw [Int.toNat_natCast] at k1
    have hfa := fn_at hra
    o_readsAll
    refine g_ixL (v := .int (rs[at_]'hat)) (.of hrl3) (atI_nat (by rw [List.getElem?_map, hra]; rfl)) ?_
    o_readsAll
    rw [rng_len]
    refine c_tmakeF ((h3.same e1).same e3) h3q n40 (bhN_nn hm (Nat.le_refl _)) fun t' H4 ft e4 ht4 ⟨dx', cl', fcl', g1, g2⟩ => ?_
    o_readsAll
    rename_i p H5 fp e5 hp
    have e03 := e1.trans e3
    have hd' : decide (rs[at_] + 1 = (n : Int)) = decide (fn rs at_ + 1 = (n : Int)) := by rw [hfa]
    rw [hd'] at hp
    exact k1 hm p t' H5 ((e03.trans e4).free fp) (e03.free ft) ((e03.trans e4).trans e5) hp (ht4.same e5) ⟨dx, l, dx', cl, cl', h1, e03.free fcl', e5 _ _ g1, g2.same e5⟩
end
end L25

namespace L25
set_option exponentiation.threshold 2000
open SX Ld
section
variable {P : Program} {w : World} {K : PySem.W.Frag} {mg : Str → Option Value} {base : Heap} {Z : Ad}
theorem c_eheads {p : Addr} {L : Int} {n : Nat} {fs : Nat → Int} {ret : Bool} {H : Hp} {Q : VK} {E : XK} (h : PlA H p L n fs ret) (l0 : 0 ≤ L) (l6 : L ≤ 6) (n40 : n ≤ 40) (ok : OkF fs) (k : ∀ q H', H q = none → Same H H' → IL H' q (n + 1) (hd L fs) → Q (.ref q) H') : sp_eheads [.ref p] H Q E := ⟨p, L, n, fs, ret, rfl, h, l0, l6, n40, ok, k⟩
theorem c_eloads {p : Addr} {L : Int} {n : Nat} {fs : Nat → Int} {ret : Bool} {H : Hp} {Q : VK} {E : XK} (h : PlA H p L n fs ret) (l0 : 0 ≤ L) (l6 : L ≤ 6) (n40 : n ≤ 40) (ok : OkF fs) (k : ∀ q qs H', H q = none → Same H H' → H' q = some (.lst (qs.map V.ref)) → qs.length = n → RowsAt H' qs n L fs → Q (.ref q) H') : sp_eloads [.ref p] H Q E := ⟨p, L, n, fs, ret, rfl, h, l0, l6, n40, ok, k⟩
def sp_esum : Sp := fun vs H Q _ => ∃ (r c : Addr) (n m : Nat) (s v : Nat → Int), vs = [.ref r, .ref c] ∧ IL H c n s ∧ IL H r m v ∧ n ≤ m ∧ m ≤ 41 ∧ (∀ i, i < n → (s i).natAbs < 2 ^ 250 ∧ (v i).natAbs < 2 ^ 250) ∧ ∀ H', Same H H' → Q (.int (sm (fun b => v b * s b) n)) H'
theorem d_law_e_sum (T : Txt K w mg Z) : Dfn P w K mg base 1 "_law_e_sum" ["row", "counts"] (sp_esum) := by
  obtain ⟨f, fd, F, hm, hb⟩ := T.f_law_e_sum
  refine ⟨f, fd, F.ok sc_law_e_sum (fun vs H Q E h => by first | (obtain ⟨rfl, _⟩ := h; rfl) | (obtain ⟨_, rfl, _⟩ := h; rfl) | (obtain ⟨_, _, rfl, _⟩ := h; rfl) | (obtain ⟨_, _, _, rfl, _⟩ := h; rfl) | (obtain ⟨_, _, _, _, rfl, _⟩ := h; rfl) | (obtain ⟨_, _, _, _, _, rfl, _⟩ := h; rfl) | (obtain ⟨_, _, _, _, _, _, rfl, _⟩ := h; rfl) | (obtain ⟨_, _, _, _, _, _, _, rfl, _⟩ := h; rfl) | (obtain ⟨_, _, _, _, _, _, _, _, rfl, _⟩ := h; rfl) | (obtain ⟨_, _, _, _, _, _, _, _, _, rfl, _⟩ := h; rfl) | (obtain ⟨_, _, _, _, _, _, _, _, _, _, rfl, _⟩ := h; rfl) | (obtain ⟨_, _, _, _, _, _, _, _, _, _, _, rfl, _⟩ := h; rfl) | (obtain ⟨_, _, _, _, _, _, _, _, _, _, _, _, rfl, _⟩ := h; rfl) | (obtain ⟨_, _, _, _, _, _, _, _, _, _, _, _, _, rfl, _⟩ := h; rfl) | (obtain ⟨_, _, _, _, _, _, _, _, _, _, _, _, _, _, rfl, _⟩ := h; rfl) | (obtain ⟨_, _, _, _, _, _, _, _, _, _, _, _, _, _, _, rfl, _⟩ := h; rfl) | (obtain ⟨_, _, _, _, _, _, _, _, _, _, _, _, _, _, _, _, rfl, _⟩ := h; rfl)) (fun cdv A outer s H vs Q E hr h => ?_), hm, F.kp, hb⟩
  obtain ⟨r, c, n, m, s, v, rfl, hc, hr', hnm, hm, hb, k⟩ := h
  have hc' := hc
  unfold IL at hc'
  refine ⟨_, (pss_one (ps_ret (pe_callB (cr_sum rfl) (by rfl) T.b_sum bt_sum (pa_cons (pe_lc (own := [("b", 2)]) (by rfl) sc_law_e_sum.nd (pi_range1 (by rfl) T.b_range (pa_cons (pe_callB call_uLen (by rfl) T.b_len bt_len (pa_cons (pv 1) pa_nil)) pa_nil)) (blkOk_by (N := n_law_e_sum) (sc := defScope st_law_e_sum) (by decide +kernel)) (fun _ _ _ _ _ => (pg_name (i := 2) sc_law_e_sum.nd rfl (.inl rfl))) (fun _ _ _ _ _ => pts_nil) (fun _ _ _ _ _ => (pe_op op_uMul (pe_ix (ix_seqK (K := K) rfl) (pv 0) (pv 2) (fun _ _ => rfl)) (pe_ix (ix_seqK (K := K) rfl) (pv 1) (pv 2) (fun _ _ => rfl))))) pa_nil)))), ?_⟩
  try dsimp only [cxOf, Cx.nox, Cx.wish]
  show (_ : TS) _ [some _, some _, none] _
  o_readsAll
  rw [rng_len, Int.toNat_natCast]
  refine l_rngP (fun i => .int (v i * s i)) (fun x => rfl) (fun D i H' hi hD e hl => ?_) fun q H2 hq e2 h2 => ?_
  · rw [Int.zero_add]
    obtain ⟨b1, b2⟩ := hb i hi
    o_readsAll
    refine g_ixL (hr'.same e).sq (atI_nat (rng_at (by omega))) ?_
    o_readsAll
    refine g_ixL (hc.same e).sq (atI_nat (rng_at (by omega))) ?_
    refine g_mulW (mul_nb b2 b1 (by decide)) ?_
    exact g_itemP e hl hD (by rw [sizeLine_eq]; omega) rfl
  · o_readsAll
    refine g_sumI (f := fun i => v i * s i) (n := n) h2 ?_
    o_readsAll
    exact k _ e2
theorem c_esum {r c : Addr} {n m : Nat} {s v : Nat → Int} {H : Hp} {Q : VK} {E : XK} (hc : IL H c n s) (hr : IL H r m v) (hnm : n ≤ m) (hm : m ≤ 41) (hb : ∀ i, i < n → (s i).natAbs < 2 ^ 250 ∧ (v i).natAbs < 2 ^ 250) (k : ∀ H', Same H H' → Q (.int (sm (fun b => v b * s b) n)) H') : sp_esum [.ref r, .ref c] H Q E := ⟨r, c, n, m, s, v, rfl, hc, hr, hnm, hm, hb, k⟩
theorem flat_rng (n : Nat) (f : Nat → Int) : (rng n f).all flatV = true := by rw [rng_ints]; exact flat_ints _
def sp_eworths : Sp := fun vs H Q _ => ∃ (p : Addr) (L : Int) (n : Nat) (fs : Nat → Int) (ret : Bool), vs = [.ref p] ∧ PlA H p L n fs ret ∧ 0 ≤ L ∧ L ≤ 6 ∧ n ≤ 40 ∧ OkF fs ∧ ∀ q H', H q = none → Same H H' → IL H' q (n + 1) (wd L fs) → Q (.ref q) H'
theorem d_law_e_worths (T : Txt K w mg Z) : Dfn P w K mg base 3 "_law_e_worths" ["ladder"] (sp_eworths) := by
  obtain ⟨f, fd, F, hm, hb⟩ := T.f_law_e_worths
  refine ⟨f, fd, F.ok sc_law_e_worths (fun vs H Q E h => by first | (obtain ⟨rfl, _⟩ := h; rfl) | (obtain ⟨_, rfl, _⟩ := h; rfl) | (obtain ⟨_, _, rfl, _⟩ := h; rfl) | (obtain ⟨_, _, _, rfl, _⟩ := h; rfl) | (obtain ⟨_, _, _, _, rfl, _⟩ := h; rfl) | (obtain ⟨_, _, _, _, _, rfl, _⟩ := h; rfl) | (obtain ⟨_, _, _, _, _, _, rfl, _⟩ := h; rfl) | (obtain ⟨_, _, _, _, _, _, _, rfl, _⟩ := h; rfl) | (obtain ⟨_, _, _, _, _, _, _, _, rfl, _⟩ := h; rfl) | (obtain ⟨_, _, _, _, _, _, _, _, _, rfl, _⟩ := h; rfl) | (obtain ⟨_, _, _, _, _, _, _, _, _, _, rfl, _⟩ := h; rfl) | (obtain ⟨_, _, _, _, _, _, _, _, _, _, _, rfl, _⟩ := h; rfl) | (obtain ⟨_, _, _, _, _, _, _, _, _, _, _, _, rfl, _⟩ := h; rfl) | (obtain ⟨_, _, _, _, _, _, _, _, _, _, _, _, _, rfl, _⟩ := h; rfl) | (obtain ⟨_, _, _, _, _, _, _, _, _, _, _, _, _, _, rfl, _⟩ := h; rfl) | (obtain ⟨_, _, _, _, _, _, _, _, _, _, _, _, _, _, _, rfl, _⟩ := h; rfl) | (obtain ⟨_, _, _, _, _, _, _, _, _, _, _, _, _, _, _, _, rfl, _⟩ := h; rfl)) (fun cdv A outer s H vs Q E hr h => ?_), hm, F.kp, hb⟩
  obtain ⟨p, L, n, fs, ret, rfl, hp, l0, l6, n40, ok, k⟩ := h
  have hp' := hp
  obtain ⟨fl, hp1, hp2⟩ := hp'
  unfold IL at hp2
  have D_law_e_loads := d_law_e_loads (P := P) (base := base) T
  refine ⟨_, (pss_cons (ps_set (i := 1) sc_law_e_worths.nd rfl (.inr rfl) (pe_dfn D_law_e_loads (hr.mono (by decide)) (by rfl) (pa_cons (pv 0) pa_nil)))
      (pss_one (ps_ret (pe_lc (own := [("b", 2)]) (by rfl) sc_law_e_worths.nd (pi_range1 (by rfl) T.b_range (pa_cons (pe_op op_uAdd (pe_callB call_uLen (by rfl) T.b_len bt_len (pa_cons (pe_ix ix_seq (pv 0) pe_int (fun _ _ => rfl)) pa_nil)) pe_int) pa_nil)) (blkOk_by (N := n_law_e_worths) (sc := defScope st_law_e_worths) (by decide +kernel)) (fun _ _ _ _ _ => (pg_name (i := 2) sc_law_e_worths.nd rfl (.inr rfl))) (fun _ _ _ _ _ => pts_nil) (fun _ _ _ _ _ => (pe_callB (cr_sumK (K := K) rfl rfl) (by rfl) T.b_sum bt_sum (pa_cons (pe_lc (own := [("row", 3)]) (by rfl) sc_law_e_worths.nd (pi_listK (K := K) rfl (pv 1)) (blkOk_by (N := n_law_e_worths) (sc := (⟨.function, [(PySem.Str.ofString ".0", .local), (PySem.Str.ofString "b", .cell), (PySem.Str.ofString "sum", .globalImplicit), (PySem.Str.ofString "loads", .cell)], false, false, []⟩ : Scope)) (by decide +kernel)) (fun _ _ _ _ _ => (pg_name (i := 3) sc_law_e_worths.nd rfl (.inl rfl))) (fun _ _ _ _ _ => pts_nil) (fun _ _ _ _ _ => (pe_ix (ix_seqK (K := K) rfl) (pv 3) (pv 2) (fun _ _ => rfl)))) pa_nil))))))), ?_⟩
  try dsimp only [cxOf, Cx.nox, Cx.wish]
  show (_ : TS) _ [some _, none, none, none] _
  o_readsAll
  refine c_eloads hp l0 l6 n40 ok fun q qs H1 fq e1 hq hql hR => ?_
  have hp11 := e1 _ _ hp1
  have hp21 := e1 _ _ hp2
  o_readsAll
  rw [rng_len, show ((n : Int) + 1).toNat = n + 1 by omega]
  refine l_rngP (fun b => .int (wd L fs b)) (fun x => rfl) (fun D b H' hb hD e hl' => ?_) fun q2 H2 fq2 e2 hq2 => ?_
  · rw [Int.zero_add]
    have hqe := e _ _ hq
    o_readsAll
    refine l_lstP (fun a => .int (ld L fs a b)) (.of hqe) (fun x => rfl) (fun D2 a x H'' hx hD2 e2 hl2 => ?_) fun q3 H3 fq3 e3 hq3 => ?_
    · rw [List.getElem?_map] at hx
      obtain ⟨r, hr1, rfl⟩ := Option.map_eq_some_iff.mp hx
      have hrr := ((hR a r hr1).same e).same e2
      o_readsAll
      refine g_ixL hrr.sq (atI_nat (rng_at (by omega))) ?_
      have ha := (List.getElem?_eq_some_iff.mp hr1).1
      exact g_itemP e2 hl2 hD2 (by rw [sizeLine_eq]; omega) rfl
    · rw [List.length_map, hql] at hq3
      o_readsAll
      refine g_sumI (f := fun a => ld L fs a b) (n := n) hq3 ?_
      have hl3 := e3 _ _ hl'
      exact g_itemP (e.trans e3) hl3 hD (by rw [sizeLine_eq]; omega) (by rw [wd, wd_eq (k := n) ok b (by omega)])
  · exact k _ _ (e1.free fq2) (e1.trans e2) hq2
theorem c_eworths {p : Addr} {L : Int} {n : Nat} {fs : Nat → Int} {ret : Bool} {H : Hp} {Q : VK} {E : XK} (h : PlA H p L n fs ret) (l0 : 0 ≤ L) (l6 : L ≤ 6) (n40 : n ≤ 40) (ok : OkF fs) (k : ∀ q H', H q = none → Same H H' → IL H' q (n + 1) (wd L fs) → Q (.ref q) H') : sp_eworths [.ref p] H Q E := ⟨p, L, n, fs, ret, rfl, h, l0, l6, n40, ok, k⟩
def sp_ebehind : Sp := fun vs H Q _ => ∃ (p q rl : Addr) (at_ L : Int) (n : Nat) (fs cs : Nat → Int) (ret : Bool) (rs : List Int), vs = [.ref p, .ref q, .ref rl, .int at_] ∧ PlA H p L n fs ret ∧ IL H q n cs ∧ n ≤ 40 ∧ OkF fs ∧ H rl = some (.lst (rs.map V.int)) ∧ rs.length ≤ 1000 ∧ mfault L n cs rs at_ = none ∧ ∀ tp ap H', H tp = none → H ap = none → Same H H' → H' tp = some (.tup [.ref ap, .bl (decide (fn rs at_.toNat + 1 = n))]) → IL H' ap n (bhN n fs ret at_ rs cs rs.length) → Q (.ref tp) H'
theorem d_law_e_behind (T : Txt K w mg Z) : Dfn P w K mg base 1 "_law_e_behind" ["ladder", "counts", "rungs", "at"] (sp_ebehind) := by
  obtain ⟨f, fd, F, hm, hb⟩ := T.f_law_e_behind
  refine ⟨f, fd, F.ok sc_law_e_behind (fun vs H Q E h => by first | (obtain ⟨rfl, _⟩ := h; rfl) | (obtain ⟨_, rfl, _⟩ := h; rfl) | (obtain ⟨_, _, rfl, _⟩ := h; rfl) | (obtain ⟨_, _, _, rfl, _⟩ := h; rfl) | (obtain ⟨_, _, _, _, rfl, _⟩ := h; rfl) | (obtain ⟨_, _, _, _, _, rfl, _⟩ := h; rfl) | (obtain ⟨_, _, _, _, _, _, rfl, _⟩ := h; rfl) | (obtain ⟨_, _, _, _, _, _, _, rfl, _⟩ := h; rfl) | (obtain ⟨_, _, _, _, _, _, _, _, rfl, _⟩ := h; rfl) | (obtain ⟨_, _, _, _, _, _, _, _, _, rfl, _⟩ := h; rfl) | (obtain ⟨_, _, _, _, _, _, _, _, _, _, rfl, _⟩ := h; rfl) | (obtain ⟨_, _, _, _, _, _, _, _, _, _, _, rfl, _⟩ := h; rfl) | (obtain ⟨_, _, _, _, _, _, _, _, _, _, _, _, rfl, _⟩ := h; rfl) | (obtain ⟨_, _, _, _, _, _, _, _, _, _, _, _, _, rfl, _⟩ := h; rfl) | (obtain ⟨_, _, _, _, _, _, _, _, _, _, _, _, _, _, rfl, _⟩ := h; rfl) | (obtain ⟨_, _, _, _, _, _, _, _, _, _, _, _, _, _, _, rfl, _⟩ := h; rfl) | (obtain ⟨_, _, _, _, _, _, _, _, _, _, _, _, _, _, _, _, rfl, _⟩ := h; rfl)) (fun cdv A outer s H vs Q E hr h => ?_), hm, F.kp, hb⟩
  obtain ⟨p, q, rl, at_, L, n, fs, cs, ret, rs, rfl, ⟨fl, hp1, hp2⟩, hq, n40, ok, hrl, hrs, hm, k⟩ := h
  obtain ⟨mL, m0, m1, mr, mc⟩ := mf_none hm
  unfold IL at hq hp2
  refine ⟨_, (pss_cons (ps_set (i := 4) sc_law_e_behind.nd rfl (.inl rfl) (pe_callTy call_uList (by rfl) T.b_list bt_list (pa_cons (pv 1) pa_nil)))
      (pss_cons (ps_set (i := 5) sc_law_e_behind.nd rfl (.inl rfl) pe_bl)
      (pss_cons (ps_for PassesOwn.never rfl (pi_range1 (by rfl) T.b_range (pa_cons (pe_callB call_uLen (by rfl) T.b_len bt_len (pa_cons (pv 2) pa_nil)) pa_nil)) (pg_name (i := 6) sc_law_e_behind.nd rfl (.inl rfl))
        (pss_cons (ps_set (i := 7) sc_law_e_behind.nd rfl (.inl rfl) (pe_ix ix_seq (pv 2) (pv 6) (fun _ _ => rfl)))
      (pss_cons (ps_augS (pv 4) (pv 7) get_list pe_int ip_sub set_list)
      (pss_cons (ps_set (i := 8) sc_law_e_behind.nd rfl (.inl rfl) (pe_ifExp (pt_cmpR (op_uEq hr.units) (pv 6) (pv 3) (nomark _)) (pe_op op_uAdd (pv 7) pe_int) (pe_ix ix_seq (pe_ix ix_seq (pv 0) pe_int (fun _ _ => rfl)) (pv 7) (fun _ _ => rfl))))
      (pss_cons (ps_if (pt_cmpR (op_uEq hr.units) (pv 8) (pe_callB call_uLen (by rfl) T.b_len bt_len (pa_cons (pv 1) pa_nil)) (nomark _)) (pss_cons (ps_set (i := 5) sc_law_e_behind.nd rfl (.inl rfl) pe_bl)
      (pss_one (ps_set (i := 8) sc_law_e_behind.nd rfl (.inl rfl) (pe_ifExp (pt_u (pe_ix ix_seq (pv 0) pe_int (fun _ _ => rfl))) pe_int (pe_un un_neg pe_int))))) pss_nil)
      (pss_one (ps_if (pt_cmpR op_ge (pv 8) pe_int (nomark _)) (pss_one (ps_augS (pv 4) (pv 8) get_list pe_int ip_add set_list)) pss_nil)))))))
      (pss_one (ps_ret (pe_tup (pa_cons (pv 4) (pa_cons (pv 5) pa_nil)))))))), ?_⟩
  try dsimp only [cxOf, Cx.nox, Cx.wish]
  show (_ : TS) _ [some _, some _, some _, some _, none, none, none, none, none] _
  o_readsAll
  rename_i ap H1 fap e1 hap N1 hN1 N2 hN2
  rw [List.length_map, Int.toNat_natCast]
  have hrl1 := e1 _ _ hrl
  have hp11 := e1 _ _ hp1
  have hp21 := e1 _ _ hp2
  have hq1 := e1 _ _ hq
  refine f_rng (fun i σ' H' => ∃ (cr : Bool) (x y z : Option V), σ' = [some (.ref p), some (.ref q), some (.ref rl), some (.int at_), some (.ref ap), some (.bl cr), x, y, z] ∧ Same H H' ∧ IL H' ap n (bhN n fs ret at_ rs cs i) ∧ cr = decide (at_ < i ∧ fn rs at_.toNat + 1 = n)) ⟨false, _, _, _, rfl, e1, hap, (decide_eq_false (by omega)).symm⟩ ?_ ?_
  · rintro i σ' H2 hi ⟨cr, x, y, z, rfl, e2, h2, hcr⟩
    rw [Int.zero_add]
    have hri := List.getElem?_eq_getElem (l := rs) (i := i) hi
    have hfn := fn_at hri
    have hmem : rs[i] ∈ rs := List.getElem_mem _
    generalize rs[i] = r at *
    obtain ⟨r0, rn⟩ := mr r hmem
    obtain ⟨r, rfl⟩ : ∃ a' : Nat, r = a' := ⟨r.toNat, by omega⟩
    have hrn : r < n := by omega
    have okr := ok r
    have hrl2 := e2 _ _ hrl
    have hp12 := e2 _ _ hp1
    have hp22 := e2 _ _ hp2
    have hq2 := e2 _ _ hq
    have h2' := h2
    unfold IL at h2'
    o_readsAll
    refine g_ixL (v := .int (r : Int)) (.of hrl2) (atI_nat (by rw [List.getElem?_map, hri]; rfl)) ?_
    o_readsAll
    have hnext : bhN n fs ret at_ rs cs (i + 1) = bst (bhN n fs ret at_ rs cs i) (r : Int) (tgt n fs ret at_ i (r : Int)) := by
      show bst (bhN n fs ret at_ rs cs i) (fn rs i) (tgt n fs ret at_ i (fn rs i)) = _
      rw [hfn]
    have htg : tgt n fs ret at_ i (r : Int) = if (if (i : Int) = at_ then (r : Int) + 1 else fs r) = n then (if ret then 0 else -1) else (if (i : Int) = at_ then (r : Int) + 1 else fs r) := by
      unfold tgt
      rw [Int.toNat_natCast]
    obtain ⟨t0, ht0⟩ : ∃ t0 : Int, t0 = (if (i : Int) = at_ then (r : Int) + 1 else fs r) := ⟨_, rfl⟩
    obtain ⟨t1, ht1⟩ : ∃ t1 : Int, t1 = (if t0 = n then (if ret then 0 else -1) else t0) := ⟨_, rfl⟩
    rw [← ht0, ← ht1] at htg
    rw [htg] at hnext
    have hto : -1 ≤ t0 ∧ t0 ≤ n := by rw [ht0]; split <;> omega
    have htn1 : -1 ≤ t1 ∧ t1 < n := by
      rw [ht1]
      split
      · cases ret <;> simp <;> omega
      · omega
    have hcn : (cr || decide (t0 = n)) = decide (at_ < ((i + 1 : Nat) : Int) ∧ fn rs at_.toNat + 1 = n) := by
      rw [hcr, Bool.eq_iff_iff, Bool.or_eq_true, decide_eq_true_iff, decide_eq_true_iff, decide_eq_true_iff, ht0]
      by_cases hia : (i : Int) = at_
      · rw [if_pos hia, show at_.toNat = i by omega, hfn]
        omega
      · rw [if_neg hia]
        omega
    have fin : ∀ {H' : Hp} (cr' : Bool) (g : Int), Same H H' → cr' = (cr || decide (t0 = n)) → IL H' ap n (bst (bhN n fs ret at_ rs cs i) (r : Int) t1) → ∃ (cr : Bool) (x y z : Option V), [some (V.ref p), some (V.ref q), some (V.ref rl), some (V.int at_), some (V.ref ap), some (V.bl cr'), some (V.int (i : Int)), some (V.int (r : Int)), some (V.int g)] = [some (V.ref p), some (V.ref q), some (V.ref rl), some (V.int at_), some (V.ref ap), some (V.bl cr), x, y, z] ∧ Same H H' ∧ IL H' ap n (bhN n fs ret at_ rs cs (i + 1)) ∧ cr = decide (at_ < ((i + 1 : Nat) : Int) ∧ fn rs at_.toNat + 1 = n) := fun {H'} cr' g e hcr' hI => ⟨cr', _, _, _, rfl, e, by rw [hnext]; exact hI, by rw [hcr', hcn]⟩
    clear htg hnext hcn
    generalize bhN n fs ret at_ rs cs i = bc at *
    refine g_ixLg (.of h2') (atI_nat (rng_at hrn)) ?_
    o_readsAll
    refine g_setL h2' (by rw [rng_len]; exact ixN_at hrn) (rng_set n r _ _) ?_
    have e1u : Same H (upd H2 ap (.lst (rng n fun j => if j = r then bc r - 1 else bc j))) := Eg.Same.put e2 fap
    have hu : IL (upd H2 ap (.lst (rng n fun j => if j = r then bc r - 1 else bc j))) ap n (fun j => if j = r then bc r - 1 else bc j) := upd_same
    generalize upd H2 ap (.lst (rng n fun j => if j = r then bc r - 1 else bc j)) = H5 at *
    have hp15 := e1u _ _ hp1
    have hp25 := e1u _ _ hp2
    have hq5 := e1u _ _ hq
    o_readsAll
    refine jnE (fun x H' => x = .int t0 ∧ H' = H5) ?_ (fun Q' hQ => br (fun hc => ?_) (fun hc => ?_))
    · rintro x' H' ⟨rfl, rfl⟩
      o_readsAll
      rw [rng_len]
      refine jnS (fun (σ' : L2.St) (H'' : Hp) => σ' = [some (.ref p), some (.ref q), some (.ref rl), some (.int at_), some (.ref ap), some (.bl (cr || decide (t0 = n))), some (.int (i : Int)), some (.int (r : Int)), some (.int t1)] ∧ H'' = H') ?_ (fun N hN => br (fun hk => ?_) (fun hk => ?_))
      · rintro σ' H'' ⟨rfl, rfl⟩
        o_readsAll
        refine br (fun hk => ?_) (fun hk => ?_)
        · obtain ⟨t1, rfl⟩ : ∃ a' : Nat, t1 = a' := ⟨t1.toNat, by omega⟩
          have htn : t1 < n := by omega
          clear ht1
          o_readsAll
          refine g_ixLg hu.sq (atI_nat (rng_at htn)) ?_
          o_readsAll
          refine g_setL hu (by rw [rng_len]; exact ixN_at htn) (rng_set n t1 _ _) ?_
          refine fin _ _ (Eg.Same.put e1u fap) rfl ?_
          unfold IL
          rw [upd_same]
          refine congrArg (fun z => some (HO.lst z)) (rng_congr fun j hj => ?_)
          unfold bst
          by_cases hj1 : j = t1
          · subst hj1
            by_cases hj2 : j = r
            · subst hj2
              simp
            · simp [hj2, show ¬ ((j : Int) = (r : Int)) from fun z => hj2 (by omega)]
          · by_cases hj2 : j = r
            · subst hj2
              simp [hj1, show ¬ ((j : Int) = (t1 : Int)) from fun z => hj1 (by omega)]
            · simp [hj1, hj2, show ¬ ((j : Int) = (t1 : Int)) from fun z => hj1 (by omega), show ¬ ((j : Int) = (r : Int)) from fun z => hj2 (by omega)]
        · o_readsAll
          refine fin _ _ e1u rfl ?_
          unfold IL at hu ⊢
          rw [hu]
          refine congrArg (fun z => some (HO.lst z)) (rng_congr fun j hj => ?_)
          unfold bst
          by_cases hj2 : j = r
          · subst hj2
            simp [show ¬ ((j : Int) = t1) from fun z => hk (by omega)]
          · simp [hj2, show ¬ ((j : Int) = t1) from fun z => hk (by omega), show ¬ ((j : Int) = (r : Int)) from fun z => hj2 (by omega)]
      · o_readsAll
        refine brB (fun hb => ?_) (fun hb => ?_)
        · o_readsAll
          exact ⟨by rw [ht1, if_pos hk, if_pos hb, decide_eq_true hk, Bool.or_true]; rfl, rfl⟩
        · o_readsAll
          exact ⟨by rw [ht1, if_pos hk, hb, decide_eq_true hk, Bool.or_true]; rfl, rfl⟩
      · o_readsAll
        exact ⟨by rw [ht1, if_neg hk, decide_eq_false hk, Bool.or_false]; rfl, rfl⟩
    · o_readsAll
      exact hQ _ _ ⟨by rw [ht0, if_pos hc], rfl⟩
    · o_readsAll
      refine g_ixL (.of hp25) (atI_nat (rng_at hrn)) ?_
      exact hQ _ _ ⟨by rw [ht0, if_neg hc], rfl⟩
  · rintro σ' H2 ⟨cr, x, y, z, rfl, e2, h2, hcr⟩
    o_readsAll
    rename_i tp H3 ftp e3 htp
    have hc : cr = decide (fn rs at_.toNat + 1 = n) := by
      rw [hcr, decide_eq_decide]
      exact ⟨fun z => z.2, fun z => ⟨by omega, z⟩⟩
    rw [hc] at htp
    exact k tp ap H3 (e2.free ftp) fap (e2.trans e3) htp (h2.same e3)
end
end L25

namespace L25
set_option exponentiation.threshold 2000
open SX Ld
section
variable {P : Program} {w : World} {K : PySem.W.Frag} {mg : Str → Option Value} {base : Heap} {Z : Ad}
theorem ext_of {H H' : Hp} (e : Same H H') : LamX.ExtN H H' := fun b o h _ => e b o h
theorem tabs_offL {T : List (Addr × Str)} {H H' : Hp} {s : Addr} {xs : List V} (t : LamX.Tabs T H) (hs : H s = some (.lst xs)) (o : Off s H H') : LamX.Tabs T H' := fun p hp => by
  obtain ⟨ps, h1, h2, h3⟩ := t p hp
  refine ⟨ps, o _ _ (ne_of h1 hs (fun z => nomatch z)) h1, h2, fun pos cv hc => ?_⟩
  obtain ⟨c, e1, e2⟩ := h3 pos cv hc
  exact ⟨c, e1, o _ _ (ne_of e2 hs (fun z => nomatch z)) e2⟩
theorem tabs_off {T : List (Addr × Str)} {H H' : Hp} {s : Addr} (t : LamX.Tabs T H) (hs : Stk H s) (o : Off s H H') : LamX.Tabs T H' := by
  obtain ⟨x, y, z, hs⟩ := hs
  exact tabs_offL t hs o
theorem Stk.ext {H H' : Hp} {a : Addr} (h : Stk H a) (e : LamX.ExtN H H') : Stk H' a := by obtain ⟨x, y, z, h⟩ := h; exact ⟨x, y, z, e _ _ h (fun _ z => nomatch z)⟩
/-- all but the stock and tables stay -/
def OffN (s : Addr) (H H' : Hp) : Prop := ∀ b u, b ≠ s → H b = some u → (∀ ps, u ≠ .tbl ps) → H' b = some u
theorem OffN.refl (s : Addr) (H : Hp) : OffN s H H := fun _ _ _ h _ => h
theorem OffN.trans {s : Addr} {H H1 H2 : Hp} (a : OffN s H H1) (b : OffN s H1 H2) : OffN s H H2 := fun c u hc h n => b c u hc (a c u hc h n) n
theorem OffN.off {s : Addr} {H H1 H2 : Hp} (a : OffN s H H1) (b : Off s H1 H2) : OffN s H H2 := fun c u hc h n => b c u hc (a c u hc h n)
theorem OffN.ext {s : Addr} {H H1 H2 : Hp} (a : OffN s H H1) (b : LamX.ExtN H1 H2) : OffN s H H2 := fun c u hc h n => b c u (a c u hc h n) n
theorem OffN.same {s : Addr} {H H1 H2 : Hp} (a : OffN s H H1) (b : Same H1 H2) : OffN s H H2 := fun c u hc h n => b c u (a c u hc h n)
theorem OffN.lst {s a : Addr} {H H1 : Hp} {xs : List V} (o : OffN s H H1) (n : s ≠ a) (h : H a = some (.lst xs)) : H1 a = some (.lst xs) := o _ _ n.symm h (fun _ z => nomatch z)
theorem TabAt.ext {C CL : Addr} {H H' : Hp} {t : Addr} {L : Int} {n : Nat} {fs : Nat → Int} {ret : Bool} {cs : Nat → Int} (h : TabAt C CL H t L n fs ret cs) (e : LamX.ExtN H H') : TabAt C CL H' t L n fs ret cs := by
  obtain ⟨dx, l, cl, a, b, c⟩ := h
  exact ⟨dx, l, cl, e _ _ a (fun _ z => nomatch z), e _ _ b (fun _ z => nomatch z), c.ext e⟩
/-- a table that the stock does not touch -/
def TabS (C CL s : Addr) (H : Hp) (t : Addr) (L : Int) (n : Nat) (fs : Nat → Int) (ret : Bool) (cs : Nat → Int) : Prop := ∀ H', OffN s H H' → TabAt C CL H' t L n fs ret cs
theorem TabS.at {C CL s : Addr} {H : Hp} {t : Addr} {L : Int} {n : Nat} {fs : Nat → Int} {ret : Bool} {cs : Nat → Int} (h : TabS C CL s H t L n fs ret cs) : TabAt C CL H t L n fs ret cs := h H (OffN.refl _ _)
theorem TabS.off {C CL s : Addr} {H H1 : Hp} {t : Addr} {L : Int} {n : Nat} {fs : Nat → Int} {ret : Bool} {cs : Nat → Int} (h : TabS C CL s H t L n fs ret cs) (o : OffN s H H1) : TabS C CL s H1 t L n fs ret cs := fun H' o' => h H' (o.trans o')
theorem LadFr.offN {C s : Addr} {H0 H H' : Hp} {l : Addr} {L : Int} {n : Nat} {fs : Nat → Int} {ret : Bool} {u : HO} (h : LadFr C H0 H l L n fs ret) (hs : H0 s = some u) (nl : l ≠ s) (o : OffN s H H') : LadFr C H0 H' l L n fs ret := by
  obtain ⟨dx, fl, lt, hl, wl, ps, ⟨a, b, c, d, f, g, i⟩, f1, f2, f3, f4, f5⟩ := h
  have ne : ∀ {x : Addr}, H0 x = none → x ≠ s := fun hx => (ne_of_none hs hx).symm
  exact ⟨dx, fl, lt, hl, wl, ps, ⟨o _ _ nl a (fun _ z => nomatch z), o _ _ (ne f1) b (fun _ z => nomatch z), o _ _ (ne f2) c (fun _ z => nomatch z), d, fun j q hq => o _ _ (ne (f5 q (List.mem_of_getElem? hq))) (f j q hq) (fun _ z => nomatch z), o _ _ (ne f3) g (fun _ z => nomatch z), o _ _ (ne f4) i (fun _ z => nomatch z)⟩, f1, f2, f3, f4, f5⟩
/-- refused by its class -/
theorem ask_ref {tl : XK → Hp → VK → Prop} {C : Addr} {f : Str} {v : V} {H : Hp} (h : ∀ E1 Q1, RaiseI C f v H E1 → tl E1 H Q1) : ∀ E1 Q1, (∀ d H1, Same H H1 → H1 d = some (.xd [(f, v)]) → E1 (.ref C) (some d) H1) → tl E1 H Q1 := fun E1 Q1 k => h E1 Q1 fun d H1 _ e hd => k d H1 e hd
end
end L25

namespace L25
set_option exponentiation.threshold 2000
open SX Ld
section
variable {P : Program} {w : World} {K : PySem.W.Frag} {mg : Str → Option Value} {base : Heap} {Z : Ad}
theorem sm_chg (cs : Nat → Int) (a : Nat) (m : Int) {n : Nat} (h : a < n) : sm (fun i => if i = a then cs a + m else cs i) n = sm cs n + m := by
  have e : ∀ i, i < n → (if i = a then cs a + m else cs i) = cs i + (if i = a then (fun _ => m) i else 0) := fun i _ => by
    by_cases hi : i = a
    · subst hi; simp
    · simp [hi]
  rw [sm_congr e, sm_add, sm_one, if_pos h]
def sp_kcounts : Sp := fun vs H Q _ => ∃ (st p fl : Addr) (L : Int) (n : Nat) (fs : Nat → Int) (ret : Bool), vs = [.ref st, .ref p] ∧ Stk H st ∧ H p = some (.lst [.int L, .ref fl, .bl ret]) ∧ IL H fl n fs ∧ st ≠ p ∧ st ≠ fl ∧ 2 ≤ L ∧ L ≤ 6 ∧ 0 < n ∧ n ≤ 40 ∧ ∀ q cs H', H q = none → Stk H' st → Off st H H' → IL H' q n cs → (∀ i, i < n → 0 ≤ cs i ∧ cs i < 2 ^ 150) → L ≤ sm cs n → Q (.ref q) H'
theorem d_law_k25_counts (T : Txt K w mg Z) : Dfn P w K mg base 2 "_law_k25_counts" ["stock", "plain"] (sp_kcounts) := by
  obtain ⟨f, fd, F, hm, hb⟩ := T.f_law_k25_counts
  refine ⟨f, fd, F.ok sc_law_k25_counts (fun vs H Q E h => by first | (obtain ⟨rfl, _⟩ := h; rfl) | (obtain ⟨_, rfl, _⟩ := h; rfl) | (obtain ⟨_, _, rfl, _⟩ := h; rfl) | (obtain ⟨_, _, _, rfl, _⟩ := h; rfl) | (obtain ⟨_, _, _, _, rfl, _⟩ := h; rfl) | (obtain ⟨_, _, _, _, _, rfl, _⟩ := h; rfl) | (obtain ⟨_, _, _, _, _, _, rfl, _⟩ := h; rfl) | (obtain ⟨_, _, _, _, _, _, _, rfl, _⟩ := h; rfl) | (obtain ⟨_, _, _, _, _, _, _, _, rfl, _⟩ := h; rfl) | (obtain ⟨_, _, _, _, _, _, _, _, _, rfl, _⟩ := h; rfl) | (obtain ⟨_, _, _, _, _, _, _, _, _, _, rfl, _⟩ := h; rfl) | (obtain ⟨_, _, _, _, _, _, _, _, _, _, _, rfl, _⟩ := h; rfl) | (obtain ⟨_, _, _, _, _, _, _, _, _, _, _, _, rfl, _⟩ := h; rfl) | (obtain ⟨_, _, _, _, _, _, _, _, _, _, _, _, _, rfl, _⟩ := h; rfl) | (obtain ⟨_, _, _, _, _, _, _, _, _, _, _, _, _, _, rfl, _⟩ := h; rfl) | (obtain ⟨_, _, _, _, _, _, _, _, _, _, _, _, _, _, _, rfl, _⟩ := h; rfl) | (obtain ⟨_, _, _, _, _, _, _, _, _, _, _, _, _, _, _, _, rfl, _⟩ := h; rfl)) (fun cdv A outer s H vs Q E hr h => ?_), hm, F.kp, hb⟩
  obtain ⟨st, p, fl, L, n, fs, ret, rfl, hs, hp, hf, np, nf, L2, L6, n0, n40, k⟩ := h
  unfold IL at hf
  have D_law_draw := d_law_draw (P := P) (base := base) T
  refine ⟨_, (pss_cons (ps_set (i := 2) sc_law_k25_counts.nd rfl (.inl rfl) (pe_lst pa_nil))
      (pss_cons (ps_for PassesOwn.never rfl (pi_list (pe_ix ix_seq (pv 1) pe_int (fun _ _ => rfl))) (pg_name (i := 3) sc_law_k25_counts.nd rfl (.inl rfl))
        (pss_one (ps_expr (pe_bm PySem.F.plainAttrs_list PySem.F.slot_list_append PySem.F.type_list_append mt_append (pv 2) (pa_cons (pe_ifExp (pt_cmpR (op_uEq hr.units) (pe_dfn D_law_draw (hr.mono (by decide)) (by rfl) (pa_cons (pv 0) (pa_cons pe_int pa_nil))) pe_int (nomark _)) (pe_dfn D_law_draw (hr.mono (by decide)) (by rfl) (pa_cons (pv 0) (pa_cons (pe_op op_uAdd (pe_op op_pow pe_int pe_int) pe_int) pa_nil))) (pe_dfn D_law_draw (hr.mono (by decide)) (by rfl) (pa_cons (pv 0) (pa_cons pe_int pa_nil)))) pa_nil)))))
      (pss_cons (ps_set (i := 3) sc_law_k25_counts.nd rfl (.inl rfl) (pe_dfn D_law_draw (hr.mono (by decide)) (by rfl) (pa_cons (pv 0) (pa_cons (pe_callB call_uLen (by rfl) T.b_len bt_len (pa_cons (pv 2) pa_nil)) pa_nil))))
      (pss_cons (ps_augS (pv 2) (pv 3) get_list (pe_ifExp (PW.pt (pw_or (pt_cmpR (op_uEq hr.units) (pe_dfn D_law_draw (hr.mono (by decide)) (by rfl) (pa_cons (pv 0) (pa_cons pe_int pa_nil))) pe_int (nomark _)) (pw_or1 (pt_cmpR op_lt (pe_callB (cr_sum rfl) (by rfl) T.b_sum bt_sum (pa_cons (pv 2) pa_nil)) (pe_ix ix_seq (pv 1) pe_int (fun _ _ => rfl)) (nomark _))))) (pe_ix ix_seq (pv 1) pe_int (fun _ _ => rfl)) pe_int) ip_add set_list)
      (pss_one (ps_ret (pv 2))))))), ?_⟩
  try dsimp only [cxOf, Cx.nox, Cx.wish]
  show (_ : TS) _ [some _, some _, none, none] _
  o_readsAll
  rename_i q H1 fq e1 hq N hN
  have nq : st ≠ q := hs.ne fq
  refine f_lst (xs := rng n fs) (fun i σ' H' => ∃ (x : Option V) (l : List Int), σ' = [some (.ref st), some (.ref p), some (.ref q), x] ∧ Stk H' st ∧ Off st H H' ∧ H' q = some (.lst (l.map V.int)) ∧ l.length = i ∧ ∀ y ∈ l, 0 ≤ y ∧ y < 2 ^ 140) ⟨_, [], rfl, hs.same e1, fun b u _ z => e1 b u z, hq, rfl, fun _ h => nomatch h⟩ ?_ ?_ ?_
  · rintro i σ' H2 hi ⟨x, l, rfl, s2, o2, h2, hl, hb⟩
    exact .of (o2 _ _ nf.symm hf)
  · rintro i y σ' H2 hy ⟨x, l, rfl, s2, o2, h2, hl, hb⟩
    have hi : i < n := by have := (List.getElem?_eq_some_iff.mp hy).1; rw [rng_len] at this; exact this
    have hsz : (l.map V.int).length < sizeLine := by rw [List.length_map, sizeLine_eq]; omega
    have fin : ∀ (f : Int) (H4 : Hp), Stk H4 st → Off st H H4 → 0 ≤ f → f < 2 ^ 140 → ∃ (x' : Option V) (l' : List Int), [some (V.ref st), some (.ref p), some (.ref q), some y] = [some (.ref st), some (.ref p), some (.ref q), x'] ∧ Stk (upd H4 q (.lst (l.map V.int ++ [.int f]))) st ∧ Off st H (upd H4 q (.lst (l.map V.int ++ [.int f]))) ∧ (upd H4 q (.lst (l.map V.int ++ [.int f]))) q = some (.lst (l'.map V.int)) ∧ l'.length = i + 1 ∧ ∀ y ∈ l', 0 ≤ y ∧ y < 2 ^ 140 := fun f H4 s4 o4 f1 f2 =>
      ⟨_, l ++ [f], rfl, s4.put nq, Off.putN o4 fq, by rw [upd_same, List.map_append]; rfl, by rw [List.length_append, hl]; rfl, fun y hy => by
        rcases List.mem_append.mp hy with z | z
        · exact hb y z
        · rw [List.mem_singleton.mp z]; exact ⟨f1, f2⟩⟩
    o_readsAll
    refine c_draw (by decide) (by decide) s2 fun r3 H3 r30 r31 s3 o3 => ?_
    have h3 := o3 _ _ nq.symm h2
    o_readsAll
    refine br (fun h => ?_) (fun h => ?_)
    · o_readsAll
      refine c_draw (by decide) (by decide) s3 fun r4 H4 r40 r41 s4 o4 => ?_
      have h4 := o4 _ _ nq.symm h3
      o_readsAll
      exact fin _ _ s4 ((o2.trans o3).trans o4) (by omega) (by have : (10 : Int) ^ 30 + 1 < 2 ^ 140 := by decide
                                                               exact Int.lt_trans r41 this)
    · o_readsAll
      refine c_draw (by decide) (by decide) s3 fun r4 H4 r40 r41 s4 o4 => ?_
      have h4 := o4 _ _ nq.symm h3
      o_readsAll
      exact fin _ _ s4 ((o2.trans o3).trans o4) (by omega) (by omega)
  · rintro σ' H2 ⟨x, l, rfl, s2, o2, h2, hl, hb⟩
    rw [rng_len] at hl
    o_readsAll
    rw [List.length_map]
    refine c_draw (by omega) (by omega) s2 fun r3 H3 r30 r31 s3 o3 => ?_
    obtain ⟨a, rfl⟩ : ∃ a : Nat, r3 = (a : Int) := ⟨r3.toNat, by omega⟩
    have ha : a < n := by omega
    have h3 : IL H3 q n (fn l) := by unfold IL; rw [o3 _ _ nq.symm h2, rng_fn, hl]
    have hcs : ∀ i, i < n → 0 ≤ fn l i ∧ fn l i < 2 ^ 140 := fun i hi => by
      have e := List.getElem?_eq_getElem (l := l) (i := i) (by omega)
      rw [fn_at e]
      exact hb _ (List.getElem_mem _)
    have o03 := o2.trans o3
    have hp3 := o03 _ _ np.symm hp
    generalize fn l = cs at *
    clear h2 hb
    have h3' := h3
    unfold IL at h3'
    o_readsAll
    refine g_ixLg h3.sq (atI_nat (rng_at ha)) ?_
    have fin : ∀ (m : Int) (H4 : Hp), Stk H4 st → Off st H H4 → IL H4 q n cs → 0 ≤ m → m < 7 → L ≤ sm cs n + m → ∀ {X : Hp → Prop}, (∀ H6, Q (.ref q) H6 → X H6) → rSetL (V.ref q) (V.int (a : Int)) (V.int (cs a + m)) H4 X := fun m H4 s4 o4 h4 m0 m7 hL X hX => by
      refine g_setL h4 (by rw [rng_len]; exact ixN_at ha) (rng_set n a _ _) ?_
      refine hX _ ?_
      refine k q _ _ fq (s4.put nq) (Off.putN o4 fq) upd_same (fun i hi => ?_) (by rw [sm_chg cs a m ha]; exact hL)
      obtain ⟨x0, x1⟩ := hcs i hi
      obtain ⟨y0, y1⟩ := hcs a ha
      have : (2 : Int) ^ 140 + 7 < 2 ^ 150 := by decide
      split <;> omega
    have sm0 : 0 ≤ sm cs n := sm_nn fun i hi => (hcs i hi).1
    o_readsAll
    refine c_draw (by decide) (by decide) s3 fun r4 H4 r40 r41 s4 o4 => ?_
    have h4 : IL H4 q n cs := o4 _ _ nq.symm h3'
    have h4' := h4
    unfold IL at h4'
    have o04 := o03.trans o4
    have hp4 := o04 _ _ np.symm hp
    o_readsAll
    refine br (fun hc => ?_) (fun hc => ?_)
    · o_readsAll
      refine fin L H4 s4 o04 h4 (by omega) (by omega) (by omega) fun H6 hk => ?_
      o_readsAll
    · o_readsAll
      refine g_sumI h4 ?_
      o_readsAll
      refine br (fun hc => ?_) (fun hc => ?_)
      · o_readsAll
        refine fin L H4 s4 o04 h4 (by omega) (by omega) (by omega) fun H6 hk => ?_
        o_readsAll
      · o_readsAll
        refine fin 0 H4 s4 o04 h4 (by omega) (by omega) (by omega) fun H6 hk => ?_
        o_readsAll
theorem c_kcounts {st p fl : Addr} {L : Int} {n : Nat} {fs : Nat → Int} {ret : Bool} {H : Hp} {Q : VK} {E : XK} (hs : Stk H st) (hp : H p = some (.lst [.int L, .ref fl, .bl ret])) (hf : IL H fl n fs) (np : st ≠ p) (nf : st ≠ fl) (L2 : 2 ≤ L) (L6 : L ≤ 6) (n0 : 0 < n) (n40 : n ≤ 40) (k : ∀ q cs H', H q = none → Stk H' st → Off st H H' → IL H' q n cs → (∀ i, i < n → 0 ≤ cs i ∧ cs i < 2 ^ 150) → L ≤ sm cs n → Q (.ref q) H') : sp_kcounts [.ref st, .ref p] H Q E := ⟨st, p, fl, L, n, fs, ret, rfl, hs, hp, hf, np, nf, L2, L6, n0, n40, k⟩
end
end L25

namespace L25
set_option exponentiation.threshold 2000
open SX Ld
section
variable {P : Program} {w : World} {K : PySem.W.Frag} {mg : Str → Option Value} {base : Heap} {Z : Ad}
def oV : Option Int → V
  | none => .non
  | some r => .int r
def sp_kfault : Sp := fun vs H Q _ => ∃ (p fl q rl : Addr) (at_ L : Int) (n : Nat) (cs : Nat → Int) (ret : Bool) (rs : List Int), vs = [.ref p, .ref q, .ref rl, .int at_] ∧ H p = some (.lst [.int L, .ref fl, .bl ret]) ∧ IL H q n cs ∧ n ≤ 40 ∧ H rl = some (.lst (rs.map V.int)) ∧ rs.length ≤ 1000 ∧ Q (oV (mfault L n cs rs at_)) H
theorem d_law_k25_fault (T : Txt K w mg Z) : Dfn P w K mg base 1 "_law_k25_fault" ["plain", "counts", "rungs", "at"] (sp_kfault) := by
  obtain ⟨f, fd, F, hm, hb⟩ := T.f_law_k25_fault
  refine ⟨f, fd, F.ok sc_law_k25_fault (fun vs H Q E h => by first | (obtain ⟨rfl, _⟩ := h; rfl) | (obtain ⟨_, rfl, _⟩ := h; rfl) | (obtain ⟨_, _, rfl, _⟩ := h; rfl) | (obtain ⟨_, _, _, rfl, _⟩ := h; rfl) | (obtain ⟨_, _, _, _, rfl, _⟩ := h; rfl) | (obtain ⟨_, _, _, _, _, rfl, _⟩ := h; rfl) | (obtain ⟨_, _, _, _, _, _, rfl, _⟩ := h; rfl) | (obtain ⟨_, _, _, _, _, _, _, rfl, _⟩ := h; rfl) | (obtain ⟨_, _, _, _, _, _, _, _, rfl, _⟩ := h; rfl) | (obtain ⟨_, _, _, _, _, _, _, _, _, rfl, _⟩ := h; rfl) | (obtain ⟨_, _, _, _, _, _, _, _, _, _, rfl, _⟩ := h; rfl) | (obtain ⟨_, _, _, _, _, _, _, _, _, _, _, rfl, _⟩ := h; rfl) | (obtain ⟨_, _, _, _, _, _, _, _, _, _, _, _, rfl, _⟩ := h; rfl) | (obtain ⟨_, _, _, _, _, _, _, _, _, _, _, _, _, rfl, _⟩ := h; rfl) | (obtain ⟨_, _, _, _, _, _, _, _, _, _, _, _, _, _, rfl, _⟩ := h; rfl) | (obtain ⟨_, _, _, _, _, _, _, _, _, _, _, _, _, _, _, rfl, _⟩ := h; rfl) | (obtain ⟨_, _, _, _, _, _, _, _, _, _, _, _, _, _, _, _, rfl, _⟩ := h; rfl)) (fun cdv A outer s H vs Q E hr h => ?_), hm, F.kp, hb⟩
  obtain ⟨p, fl, q, rl, at_, L, n, cs, ret, rs, rfl, hp, hq, n40, hrl, hrs, k⟩ := h
  unfold IL at hq
  refine ⟨_, (pss_cons (ps_if (PW.pt (pw_or (pt_cmpR (op_uNe hr.units) (pe_callB call_uLen (by rfl) T.b_len bt_len (pa_cons (pv 2) pa_nil)) (pe_ix ix_seq (pv 0) pe_int (fun _ _ => rfl)) (nomark _)) (pw_or1 (pt_not (pt_chain op_le op_lt pe_int (pv 3) (pe_ix ix_seq (pv 0) pe_int (fun _ _ => rfl))))))) (pss_one (ps_ret (pe_op op_sub pe_int pe_int))) pss_nil)
      (pss_cons (ps_for PassesOwn.never rfl (pi_list (pv 2)) (pg_name (i := 4) sc_law_k25_fault.nd rfl (.inl rfl))
        (pss_one (ps_if (pt_not (pt_chain op_le op_lt pe_int (pv 4) (pe_callB call_uLen (by rfl) T.b_len bt_len (pa_cons (pv 1) pa_nil)))) (pss_one (ps_ret (pe_op op_sub pe_int pe_int))) pss_nil)))
      (pss_cons (ps_for PassesOwn.never rfl (pi_range1 (by rfl) T.b_range (pa_cons (pe_callB call_uLen (by rfl) T.b_len bt_len (pa_cons (pv 1) pa_nil)) pa_nil)) (pg_name (i := 4) sc_law_k25_fault.nd rfl (.inl rfl))
        (pss_one (ps_if (pt_cmpR op_gt (pe_bm PySem.F.plainAttrs_list PySem.F.slot_list_count PySem.F.type_list_count mt_lcount (pv 2) (pa_cons (pv 4) pa_nil)) (pe_ix ix_seq (pv 1) (pv 4) (fun _ _ => rfl)) (nomark _)) (pss_one (ps_ret (pv 4))) pss_nil)))
      (pss_one (ps_ret pe_non))))), ?_⟩
  try dsimp only [cxOf, Cx.nox, Cx.wish]
  show (_ : TS) _ [some _, some _, some _, some _, none] _
  have bad : ((rs.length : Int) ≠ L ∨ ¬ (0 ≤ at_ ∧ at_ < L) ∨ ¬ (∀ r ∈ rs, 0 ≤ r ∧ r < n)) → Q (.int (0 - 1)) H := fun hc => by
    have h : mfault L n cs rs at_ = some (-1) := if_pos hc
    rw [h] at k
    exact k
  have rest : ((rs.length : Int) ≠ L ∨ ¬ (0 ≤ at_ ∧ at_ < L) → False) → True := fun _ => trivial
  o_readsAll
  rw [List.length_map]
  refine brn (fun g1 => ?_) (fun g1 => ?_)
  · o_readsAll
    exact bad (.inl g1)
  · o_readsAll
    refine ⟨_, rfl, ?_⟩
    refine br (fun g2 => ?_) (fun g2 => ?_)
    · o_readsAll
      refine brn (fun g3 => ?_) (fun g3 => ?_)
      · o_readsAll
        exact bad (.inr (.inl fun z => g3 z.2))
      · o_readsAll
        refine f_lst (xs := rs.map V.int) (fun i σ' H' => ∃ a, σ' = [some (.ref p), some (.ref q), some (.ref rl), some (.int at_), a] ∧ H' = H ∧ ∀ j y, j < i → rs[j]? = some y → 0 ≤ y ∧ y < n) ⟨_, rfl, rfl, fun j y hj => by omega⟩ ?_ ?_ ?_
        · rintro i σ' H2 hi ⟨a, rfl, rfl, _⟩
          exact .of hrl
        · rintro i y σ' H2 hy ⟨a, rfl, rfl, hb⟩
          rw [List.getElem?_map] at hy
          obtain ⟨r, hri, rfl⟩ := Option.map_eq_some_iff.mp hy
          o_readsAll
          refine ⟨_, rfl, ?_⟩
          refine br (fun g4 => ?_) (fun g4 => ?_)
          · o_readsAll
            rw [rng_len]
            refine brn (fun g5 => ?_) (fun g5 => ?_)
            · o_readsAll
              exact bad (.inr (.inr fun z => g5 (z r (List.mem_of_getElem? hri)).2))
            · o_readsAll
              refine ⟨_, rfl, rfl, fun j y hj hy => ?_⟩
              by_cases e : j = i
              · rw [e] at hy
                have ey := Option.some.inj (hri.symm.trans hy)
                exact ey ▸ ⟨g4, g5⟩
              · exact hb j y (by omega) hy
          · o_readsAll
            exact bad (.inr (.inr fun z => g4 (z r (List.mem_of_getElem? hri)).1))
        · rintro σ' H2 ⟨a, rfl, rfl, hb⟩
          rw [List.length_map] at hb
          have hall : ∀ r ∈ rs, 0 ≤ r ∧ r < (n : Int) := fun r hr => by
            obtain ⟨j, hj, rfl⟩ := List.mem_iff_getElem.mp hr
            exact hb j _ hj (List.getElem?_eq_getElem hj)
          have hmf : mfault L n cs rs at_ = Option.map (fun (i : Nat) => (i : Int)) (fb (over cs rs) n) := if_neg (fun z => z.elim (fun z => z g1) fun z => z.elim (fun z => z ⟨g2, g3⟩) fun z => z hall)
          rw [hmf] at k
          o_readsAll
          rw [rng_len, Int.toNat_natCast]
          refine f_rng (fun i σ' H' => ∃ b, σ' = [some (.ref p), some (.ref q), some (.ref rl), some (.int at_), b] ∧ H' = H2 ∧ ∀ j, j < i → ¬ over cs rs j) ⟨_, rfl, rfl, fun j hj => by omega⟩ ?_ ?_
          · rintro i σ' H3 hi ⟨b, rfl, rfl, hp'⟩
            rw [Int.zero_add]
            o_readsAll
            refine g_countI (.of hrl) ?_
            o_readsAll
            refine g_ixL (.of hq) (atI_nat (rng_at hi)) ?_
            o_readsAll
            refine br (fun hb => ?_) (fun hb => ?_)
            · o_readsAll
              rw [fb_at (show over cs rs i from hb) hp' hi] at k
              exact k
            · o_readsAll
              exact ⟨_, rfl, rfl, fun j hj => by
                by_cases e : j = i
                · rw [e]; exact hb
                · exact hp' j (by omega)⟩
          · rintro σ' H3 ⟨b, rfl, rfl, hp'⟩
            o_readsAll
            rw [fb_none hp'] at k
            exact k
    · o_readsAll
      exact bad (.inr (.inl fun z => g2 z.1))
theorem c_kfault {p fl q rl : Addr} {at_ L : Int} {n : Nat} {cs : Nat → Int} {ret : Bool} {rs : List Int} {H : Hp} {Q : VK} {E : XK} (hp : H p = some (.lst [.int L, .ref fl, .bl ret])) (hq : IL H q n cs) (n40 : n ≤ 40) (hrl : H rl = some (.lst (rs.map V.int))) (hrs : rs.length ≤ 1000) (k : Q (oV (mfault L n cs rs at_)) H) : sp_kfault [.ref p, .ref q, .ref rl, .int at_] H Q E := ⟨p, fl, q, rl, at_, L, n, cs, ret, rs, rfl, hp, hq, n40, hrl, hrs, k⟩
end
end L25

namespace L25
set_option exponentiation.threshold 2000
open SX Ld
section
variable {P : Program} {w : World} {K : PySem.W.Frag} {mg : Str → Option Value} {base : Heap} {Z : Ad}
def sp_ktell (Z : Ad) : Sp := fun vs H Q _ => ∃ (t p q : Addr) (L : Int) (n : Nat) (fs : Nat → Int) (ret : Bool) (cs : Nat → Int), vs = [.ref t, .ref p, .ref q] ∧ TabAt Z.a_Table Z.a_Ladder H t L n fs ret cs ∧ PlA H p L n fs ret ∧ IL H q n cs ∧ TOk L n fs cs ∧ ∀ H', Same H H' → Q (.bl true) H'
theorem d_law_k25_tellers (T : Txt K w mg Z) : Dfn P w K mg base 10 "_law_k25_tellers" ["table", "plain", "counts"] (sp_ktell Z) := by
  obtain ⟨f, fd, F, hm, hb⟩ := T.f_law_k25_tellers
  refine ⟨f, fd, F.ok sc_law_k25_tellers (fun vs H Q E h => by first | (obtain ⟨rfl, _⟩ := h; rfl) | (obtain ⟨_, rfl, _⟩ := h; rfl) | (obtain ⟨_, _, rfl, _⟩ := h; rfl) | (obtain ⟨_, _, _, rfl, _⟩ := h; rfl) | (obtain ⟨_, _, _, _, rfl, _⟩ := h; rfl) | (obtain ⟨_, _, _, _, _, rfl, _⟩ := h; rfl) | (obtain ⟨_, _, _, _, _, _, rfl, _⟩ := h; rfl) | (obtain ⟨_, _, _, _, _, _, _, rfl, _⟩ := h; rfl) | (obtain ⟨_, _, _, _, _, _, _, _, rfl, _⟩ := h; rfl) | (obtain ⟨_, _, _, _, _, _, _, _, _, rfl, _⟩ := h; rfl) | (obtain ⟨_, _, _, _, _, _, _, _, _, _, rfl, _⟩ := h; rfl) | (obtain ⟨_, _, _, _, _, _, _, _, _, _, _, rfl, _⟩ := h; rfl) | (obtain ⟨_, _, _, _, _, _, _, _, _, _, _, _, rfl, _⟩ := h; rfl) | (obtain ⟨_, _, _, _, _, _, _, _, _, _, _, _, _, rfl, _⟩ := h; rfl) | (obtain ⟨_, _, _, _, _, _, _, _, _, _, _, _, _, _, rfl, _⟩ := h; rfl) | (obtain ⟨_, _, _, _, _, _, _, _, _, _, _, _, _, _, _, rfl, _⟩ := h; rfl) | (obtain ⟨_, _, _, _, _, _, _, _, _, _, _, _, _, _, _, _, rfl, _⟩ := h; rfl)) (fun cdv A outer s H vs Q E hr h => ?_), hm, F.kp, hb⟩
  obtain ⟨t, p, q, L, n, fs, ret, cs, rfl, ht, hp, hq, ok, k⟩ := h
  have hp' := hp
  obtain ⟨fl, hp1, hp2⟩ := hp'
  have hq' := hq
  unfold IL at hq'
  have hp2' := hp2
  unfold IL at hp2'
  have ht' := ht
  obtain ⟨dx, l, cl, h1, h2, h3⟩ := ht'
  have l2 := ok.l2
  have l6 := ok.l6
  have n0 := ok.n0
  have n40 := ok.n40
  have D_law_e_loads := d_law_e_loads (P := P) (base := base) T
  have D_law_matches := d_law_matches (P := P) (base := base) T
  have D_Table_heads := d_Table_heads (P := P) (base := base) T
  have D_law_e_sum := d_law_e_sum (P := P) (base := base) T
  have D_Table_worth := d_Table_worth (P := P) (base := base) T
  have D_Table_above := d_Table_above (P := P) (base := base) T
  have D_Table_level := d_Table_level (P := P) (base := base) T
  have D_Ladder_same_as := d_Ladder_same_as (P := P) (base := base) T
  have D_Table_counts := d_Table_counts (P := P) (base := base) T
  have D_Table_players := d_Table_players (P := P) (base := base) T
  have D_law_e_heads := d_law_e_heads (P := P) (base := base) T
  have D_law_e_worths := d_law_e_worths (P := P) (base := base) T
  have D_Table_load := d_Table_load (P := P) (base := base) T
  have D_Ladder_init := d_Ladder_init (P := P) (base := base) T
  have D_Table_on := d_Table_on (P := P) (base := base) T
  have D_Table_ladder := d_Table_ladder (P := P) (base := base) T
  refine ⟨_, (pss_cons (ps_set (i := 3) sc_law_k25_tellers.nd rfl (.inl rfl) (pe_dfn D_law_e_loads (hr.mono (by decide)) (by rfl) (pa_cons (pv 1) pa_nil)))
      (pss_cons (ps_if (PW.pt (pw_or (pt_not (pt_u (pe_dfn (D_law_matches 2) (hr.mono (by decide)) (by rfl) (pa_cons (pe_mth0 D_Table_counts (hr.mono (by decide)) (pv 0)) (pa_cons (pv 2) pa_nil))))) (pw_or1 (pt_not (pt_u (pe_dfn (D_law_matches 2) (hr.mono (by decide)) (by rfl) (pa_cons (pe_mth0 D_Table_players (hr.mono (by decide)) (pv 0)) (pa_cons (pe_callB (cr_sum rfl) (by rfl) T.b_sum bt_sum (pa_cons (pv 2) pa_nil)) pa_nil)))))))) (pss_one (ps_ret pe_bl)) pss_nil)
      (pss_cons (ps_if (pt_not (pt_u (pe_dfn (D_law_matches 2) (hr.mono (by decide)) (by rfl) (pa_cons (pe_mth0 D_Table_heads (hr.mono (by decide)) (pv 0)) (pa_cons (pe_dfn D_law_e_sum (hr.mono (by decide)) (by rfl) (pa_cons (pe_dfn D_law_e_heads (hr.mono (by decide)) (by rfl) (pa_cons (pv 1) pa_nil)) (pa_cons (pv 2) pa_nil))) pa_nil))))) (pss_one (ps_ret pe_bl)) pss_nil)
      (pss_cons (ps_if (pt_not (pt_u (pe_dfn (D_law_matches 2) (hr.mono (by decide)) (by rfl) (pa_cons (pe_mth0 D_Table_worth (hr.mono (by decide)) (pv 0)) (pa_cons (pe_dfn D_law_e_sum (hr.mono (by decide)) (by rfl) (pa_cons (pe_dfn D_law_e_worths (hr.mono (by decide)) (by rfl) (pa_cons (pv 1) pa_nil)) (pa_cons (pv 2) pa_nil))) pa_nil))))) (pss_one (ps_ret pe_bl)) pss_nil)
      (pss_cons (ps_if (pt_not (pt_u (pe_dfn (D_law_matches 2) (hr.mono (by decide)) (by rfl) (pa_cons (pe_mthS D_Table_above (hr.mono (by decide)) takes0 (pv 0) (pa_cons (pe_op op_sub pe_int pe_int) pa_nil)) (pa_cons (pe_callB (cr_sum rfl) (by rfl) T.b_sum bt_sum (pa_cons (pv 2) pa_nil)) pa_nil))))) (pss_one (ps_ret pe_bl)) pss_nil)
      (pss_cons (ps_for PassesOwn.never rfl (pi_range1 (by rfl) T.b_range (pa_cons (pe_callB call_uLen (by rfl) T.b_len bt_len (pa_cons (pv 2) pa_nil)) pa_nil)) (pg_name (i := 4) sc_law_k25_tellers.nd rfl (.inl rfl))
        (pss_cons (ps_if (PW.pt (pw_or (pt_not (pt_u (pe_dfn (D_law_matches 2) (hr.mono (by decide)) (by rfl) (pa_cons (pe_mthS D_Table_on (hr.mono (by decide)) takes0 (pv 0) (pa_cons (pv 4) pa_nil)) (pa_cons (pe_ix ix_seq (pv 2) (pv 4) (fun _ _ => rfl)) pa_nil))))) (pw_or1 (pt_not (pt_u (pe_dfn (D_law_matches 2) (hr.mono (by decide)) (by rfl) (pa_cons (pe_mthS D_Table_above (hr.mono (by decide)) takes0 (pv 0) (pa_cons (pv 4) pa_nil)) (pa_cons (pe_callB (cr_sum rfl) (by rfl) T.b_sum bt_sum (pa_cons (pe_slice sl_u (pv 2) (po_some (pe_op op_uAdd (pv 4) pe_int)) po_none) pa_nil)) pa_nil)))))))) (pss_one (ps_ret pe_bl)) pss_nil)
      (pss_one (ps_if (pt_not (pt_u (pe_dfn (D_law_matches 2) (hr.mono (by decide)) (by rfl) (pa_cons (pe_mthS D_Table_load (hr.mono (by decide)) takes0 (pv 0) (pa_cons (pv 4) pa_nil)) (pa_cons (pe_dfn D_law_e_sum (hr.mono (by decide)) (by rfl) (pa_cons (pe_ix ix_seq (pv 3) (pv 4) (fun _ _ => rfl)) (pa_cons (pv 2) pa_nil))) pa_nil))))) (pss_one (ps_ret pe_bl)) pss_nil))))
      (pss_cons (ps_setLc (i := 5) (own := [("rung", 6)]) (by rfl) sc_law_k25_tellers.nd rfl rfl (sw_true rfl rfl rfl (by decide +kernel)) (pi_revR (by rfl) T.b_reversed (prg_1 (by rfl) T.b_range (pe_callB call_uLen (by rfl) T.b_len bt_len (pa_cons (pv 2) pa_nil)))) (blkOk_by (N := n_law_k25_tellers) (sc := defScope st_law_k25_tellers) (by decide +kernel)) (fun _ _ _ _ _ => (pg_name (i := 6) sc_law_k25_tellers.nd rfl (.inl rfl))) (fun _ _ _ _ _ => (pts_one (pt_cmpR op_ge (pe_ix (ix_seqK (K := K) rfl) (pv 2) (pv 6) (fun _ _ => rfl)) (pe_ix (ix_seqK (K := K) rfl) (pv 1) pe_int (fun _ _ => rfl)) (nomark _)))) (fun _ _ _ _ _ => (pv 6)))
      (pss_one (ps_ret (pe_and (pe_dfn (D_law_matches 2) (hr.mono (by decide)) (by rfl) (pa_cons (pe_mth0 D_Table_level (hr.mono (by decide)) (pv 0)) (pa_cons (pv 5) pa_nil))) (pe_one (pe_cmpR op_uIsB (pe_mth D_Ladder_same_as (hr.mono (by decide)) (pe_mth0 D_Table_ladder (hr.mono (by decide)) (pv 0)) (pa_cons (pe_ini D_Ladder_init (hr.mono (by decide)) (by rfl) (pa_cons (pe_ix ix_seq (pv 1) pe_int (fun _ _ => rfl)) (pa_cons (pe_ix ix_seq (pv 1) pe_int (fun _ _ => rfl)) (pa_cons (pe_ix ix_seq (pv 1) pe_int (fun _ _ => rfl)) pa_nil)))) pa_nil)) pe_bl (nomark _))))))))))))), ?_⟩
  try dsimp only [cxOf, Cx.nox, Cx.wish]
  show (_ : TS) _ [some _, some _, some _, none, none, none, none] _
  o_readsAll
  refine c_eloads hp (by omega) l6 n40 ok.ok fun lo qs H1 flo e1 hlo hql hR => ?_
  have h11 := e1 _ _ h1
  have q1 := e1 _ _ hq'
  o_readsAll
  refine c_tcnt (ht.same e1) fun cq H2 fcq e2 hcq => ?_
  have e02 := e1.trans e2
  have q2 := e02 _ _ hq'
  o_readsAll
  refine c_mat (alk_il (m := 0) hcq q2 (by omega)) fun H3 e3 => ?_
  have e03 := e02.trans e3
  have h13 := e03 _ _ h1
  have q3 := e03 _ _ hq'
  o_readsAll
  refine c_tplayers (ht.same e03) ?_
  o_readsAll
  refine g_sumI (hq.same e03) ?_
  o_readsAll
  refine c_mat (alk_flat trivial) fun H4 e4 => ?_
  have e04 := e03.trans e4
  have h14 := e04 _ _ h1
  have q4 := e04 _ _ hq'
  o_readsAll
  refine c_tval (ht.same e04) ok fun H5 e5 => ?_
  have e05 := e04.trans e5
  have q5 := e05 _ _ hq'
  o_readsAll
  refine c_eheads (hp.same e05) (by omega) l6 n40 ok.ok fun hdq H6 fhd e6 hhd => ?_
  have e06 := e05.trans e6
  o_readsAll
  refine c_esum (hq.same e06) hhd (by omega) (by omega) (fun i hi => ⟨Nat.lt_trans (ok.cb i hi) (by decide), Nat.lt_trans (hd_bd (L := L) ok.ok (by omega) l6 i (by omega)) (by decide)⟩) fun H7 e7 => ?_
  have e07 := e06.trans e7
  rw [show sm (fun b => hd L fs b * cs b) n = sm (fun b => cs b * hd L fs b) n from sm_congr fun i _ => Int.mul_comm _ _]
  o_readsAll
  refine c_mat (alk_flat trivial) fun H8 e8 => ?_
  have e08 := e07.trans e8
  have h18 := e08 _ _ h1
  have q8 := e08 _ _ hq'
  o_readsAll
  refine c_tval (ht.same e08) ok fun H9 e9 => ?_
  have e09 := e08.trans e9
  o_readsAll
  refine c_eworths (hp.same e09) (by omega) l6 n40 ok.ok fun wdq H10 fwd e10 hwd => ?_
  have e010 := e09.trans e10
  o_readsAll
  refine c_esum (hq.same e010) hwd (by omega) (by omega) (fun i hi => ⟨Nat.lt_trans (ok.cb i hi) (by decide), Nat.lt_trans (wd_bd (L := L) ok.ok (by omega) l6 i (by omega)) (by decide)⟩) fun H11 e11 => ?_
  have e011 := e010.trans e11
  rw [show sm (fun b => wd L fs b * cs b) n = sm (fun b => cs b * wd L fs b) n from sm_congr fun i _ => Int.mul_comm _ _]
  o_readsAll
  refine c_mat (alk_flat trivial) fun H12 e12 => ?_
  have e012 := e011.trans e12
  have h112 := e012 _ _ h1
  have q12 := e012 _ _ hq'
  o_readsAll
  refine c_above (r := 0) (ht.same e012) (by omega) (by omega) fun H13 e13 => ?_
  have e013 := e012.trans e13
  have q13 := e013 _ _ hq'
  o_readsAll
  refine g_sumI (hq.same e013) ?_
  rw [show abv n cs 0 = sm cs n by unfold abv; rw [Nat.sub_zero]; exact sm_congr fun i _ => by rw [Nat.zero_add]]
  o_readsAll
  refine c_mat (alk_flat trivial) fun H14 e14 => ?_
  have e014 := e013.trans e14
  have q14 := e014 _ _ hq'
  o_readsAll
  rw [rng_len, Int.toNat_natCast]
  have hlo14 := (((((((((((((e2.trans e3).trans e4).trans e5).trans e6).trans e7).trans e8).trans e9).trans e10).trans e11).trans e12).trans e13).trans e14)) _ _ hlo
  have hR14 := hR.same ((((((((((((e2.trans e3).trans e4).trans e5).trans e6).trans e7).trans e8).trans e9).trans e10).trans e11).trans e12).trans e13).trans e14)
  refine f_rng (fun i σ' H' => ∃ b, σ' = [some (.ref t), some (.ref p), some (.ref q), some (.ref lo), b, none, none] ∧ Same H14 H') ⟨_, rfl, Same.refl _⟩ ?_ ?_
  · rintro a σ' Ha ha ⟨b, rfl, ea⟩
    rw [Int.zero_add]
    have e0a := e014.trans ea
    have h1a := e0a _ _ h1
    have qa := e0a _ _ hq'
    o_readsAll
    refine c_ton (ht.same e0a) ha ?_
    o_readsAll
    refine g_ixL (.of qa) (atI_nat (rng_at ha)) ?_
    o_readsAll
    refine c_mat (alk_flat trivial) fun Hb eb => ?_
    have e0b := e0a.trans eb
    have h1b := e0b _ _ h1
    have qb := e0b _ _ hq'
    o_readsAll
    refine c_above (r := a + 1) (ht.same e0b) (by omega) (by omega) fun Hc ec => ?_
    have e0c := e0b.trans ec
    have qc := e0c _ _ hq'
    o_readsAll
    rename_i sl Hd fsl ed hsl
    rw [show (a : Int) + 1 = ((a + 1 : Nat) : Int) by omega, rng_cut (by omega)] at hsl
    have e0d := e0c.trans ed
    refine g_sumI (f := fun j => cs (a + 1 + j)) (n := n - (a + 1)) hsl ?_
    o_readsAll
    refine c_mat (alk_flat trivial) fun He ee => ?_
    have e0e := e0d.trans ee
    have h1e := e0e _ _ h1
    have eae := (((ea.trans eb).trans ec).trans ed).trans ee
    o_readsAll
    refine c_tload (ht.same e0e) ok ha fun Hf ef => ?_
    have eaf := eae.trans ef
    have e0f := e0e.trans ef
    have hlof := eaf _ _ hlo14
    have hqa := List.getElem?_eq_getElem (l := qs) (i := a) (by omega)
    have hra := hR14 a _ hqa
    generalize qs[a]'(by omega) = ra at *
    o_readsAll
    refine g_ixL (v := .ref ra) (.of hlof) (atI_nat (by rw [List.getElem?_map, hqa]; rfl)) ?_
    o_readsAll
    refine c_esum (hq.same e0f) (hra.same eaf) (by omega) (by omega) (fun i hi => ⟨Nat.lt_trans (ok.cb i hi) (by decide), Nat.lt_trans (ld_bd (L := L) ok.ok (by omega) l6 a i (by omega)) (by decide)⟩) fun Hg eg => ?_
    rw [show sm (fun b => ld L fs a b * cs b) n = sm (fun b => cs b * ld L fs a b) n from sm_congr fun i _ => Int.mul_comm _ _]
    o_readsAll
    refine c_mat (alk_flat trivial) fun Hh eh => ?_
    o_readsAll
    exact ⟨_, rfl, (eaf.trans eg).trans eh⟩
  · rintro σ' Ha ⟨b, rfl, ea⟩
    have e0a := e014.trans ea
    have qa := e0a _ _ hq'
    have hp1a := e0a _ _ hp1
    o_readsAll
    rw [rng_len]
    refine l_itF walk_rangeC (fun D i acc H' => acc = (lvl L n cs i).map V.int ∧ Same Ha H') (fun D hD => ⟨rfl, Eg.Same.put (Same.refl _) hD⟩) (fun _ _ _ _ _ _ _ _ => trivial) (fun D i x acc H1 H' hD hi e p y => ?_) (fun D acc H' hD e p => ?_)
    · obtain ⟨y1, y2⟩ := y
      subst y1 y2
      obtain ⟨rfl, e1⟩ := p
      show gName 6 (V.int ((n : Int) - 1 + (i : Nat) * (-1))) _ _ _
      rw [show (n : Int) - 1 + (i : Nat) * (-1) = ((n - 1 - i : Nat) : Int) by omega]
      refine ⟨rfl, ?_⟩
      have q1e := e1 _ _ qa
      have p1e := e1 _ _ hp1a
      o_readsAll
      refine g_ixL (.of q1e) (atI_nat (rng_at (by omega))) ?_
      o_readsAll
      have hl := lvl_len L n cs i
      refine br (fun hc => ?_) (fun hc => ?_)
      · o_readsAll
        refine ⟨_, e, by rw [List.length_map, sizeLine_eq]; omega, ?_, Eg.Same.put e1 hD⟩
        rw [lvl, if_pos hc, List.map_append]
        rfl
      · refine ⟨_, e, ?_, e1⟩
        rw [lvl, if_neg hc, List.append_nil]
    · obtain ⟨rfl, eb⟩ := p
      have e0b := e0a.trans eb
      have h1b := e0b _ _ h1
      o_readsAll
      refine c_tlevel (ht.same e0b) n40 fun lq Hc flq ec hlq => ?_
      have e0c := e0b.trans ec
      have h1c := e0c _ _ h1
      have hp1c := e0c _ _ hp1
      have hp2c := e0c _ _ hp2'
      have hDc := ec _ _ e
      have il : ∀ {x : Addr} {H : Hp}, H x = some (.lst ((lvl L n cs n).map V.int)) → IL H x (lvl L n cs n).length (fn (lvl L n cs n)) := fun hx => by unfold IL; rw [hx, rng_fn]
      have hll := lvl_len L n cs n
      o_readsAll
      refine c_mat (alk_il (m := 0) (il hlq) (il hDc) (by omega)) fun Hd ed => ?_
      have e0d := e0c.trans ed
      have h1d := e0d _ _ h1
      have hp1d := e0d _ _ hp1
      have hp2d := e0d _ _ hp2'
      o_readsAll
      refine c_tlad (ht.same e0d) fun lx hlx => ?_
      have hlx' := hlx
      obtain ⟨ldx, lfl, llt, lhh, lwl, lps, a1, _, _, _, _, _, _⟩ := hlx'
      o_readsAll
      refine c_lmake (hp2.same e0d) l2 l6 n0 n40 ok.ok fun ly He fly ee hly => ?_
      have a1e := ee _ _ a1
      o_readsAll
      refine c_lsame (hlx.same ee) hly.at fun Hf ef => ?_
      o_readsAll
      exact k Hf ((e0d.trans ee).trans ef)
theorem c_ktell {t p q : Addr} {L : Int} {n : Nat} {fs : Nat → Int} {ret : Bool} {cs : Nat → Int} {H : Hp} {Q : VK} {E : XK} (ht : TabAt Z.a_Table Z.a_Ladder H t L n fs ret cs) (hp : PlA H p L n fs ret) (hq : IL H q n cs) (ok : TOk L n fs cs) (k : ∀ H', Same H H' → Q (.bl true) H') : sp_ktell Z [.ref t, .ref p, .ref q] H Q E := ⟨t, p, q, L, n, fs, ret, cs, rfl, ht, hp, hq, ok, k⟩
end
end L25

namespace L25
set_option exponentiation.threshold 2000
open SX Ld
section
variable {P : Program} {w : World} {K : PySem.W.Frag} {mg : Str → Option Value} {base : Heap} {Z : Ad}
theorem sm_bst (cs g : Nat → Int) (r : Nat) (t : Int) {n : Nat} (hr : r < n) (h1 : -1 ≤ t) (h2 : t < n) : sm (fun b => bst cs (r : Int) t b * g b) n = sm (fun b => cs b * g b) n - g r + lowV g t := by
  have e : ∀ b, b < n → bst cs (r : Int) t b * g b = (cs b * g b - (if b = r then g b else 0)) + (if b = t.toNat then (fun j => if t < 0 then 0 else g j) b else 0) := fun b _ => by
    have a1 : (if (b : Int) = (r : Int) then (1 : Int) else 0) * g b = if b = r then g b else 0 := by
      by_cases h : b = r
      · rw [if_pos (by omega), if_pos h, Int.one_mul]
      · rw [if_neg (by omega), if_neg h, Int.zero_mul]
    have a2 : (if (b : Int) = t then (1 : Int) else 0) * g b = if b = t.toNat then (fun j => if t < 0 then 0 else g j) b else 0 := by
      by_cases h : (b : Int) = t
      · rw [if_pos h, if_pos (by omega), Int.one_mul]
        show g b = if t < 0 then 0 else g b
        rw [if_neg (by omega)]
      · rw [if_neg h, Int.zero_mul]
        by_cases h3 : b = t.toNat
        · rw [if_pos h3]
          show 0 = if t < 0 then 0 else g b
          rw [if_pos (by omega)]
        · rw [if_neg h3]
    rw [bst, Int.add_mul, Int.sub_mul, a1, a2]
  rw [sm_congr e, sm_add, sm_sub, sm_one r g, if_pos hr, sm_one t.toNat (fun j => if t < 0 then 0 else g j)]
  unfold lowV
  by_cases h : t < 0
  · rw [if_pos h]
    try (split <;> simp [h])
  · rw [if_neg h, if_pos (by omega)]
    try simp [h]
theorem meet_i {L : Int} {n : Nat} {fs cs : Nat → Int} {ret : Bool} {rs : List Int} (ok : OkF fs) {ρ : Nat} (hρ : ρ < n) (a at_ : Nat) (hall : ∀ y ∈ rs, y = (ρ : Int)) : ∀ i, i ≤ rs.length →
    sm (fun b => bhN n fs ret (at_ : Int) rs cs i b * ld L fs a b) n = sm (fun b => cs b * ld L fs a b) n - (i : Int) * ld L fs a ρ + (if at_ < i then ((i : Int) - 1) * lowV (ld L fs a) (fs ρ) + (if ρ + 1 = n then 0 else ld L fs a (ρ + 1)) else (i : Int) * lowV (ld L fs a) (fs ρ))
  | 0, _ => by
    show sm (fun b => cs b * ld L fs a b) n = _
    rw [if_neg (by omega)]
    simp
  | i + 1, hi => by
    have ih := meet_i (L := L) (cs := cs) (ret := ret) ok hρ a at_ hall i (by omega)
    have e := List.getElem?_eq_getElem (l := rs) (i := i) (by omega)
    have hfn : fn rs i = (ρ : Int) := by rw [fn_at e]; exact hall _ (List.getElem_mem _)
    show sm (fun b => bst (bhN n fs ret (at_ : Int) rs cs i) (fn rs i) (tgt n fs ret (at_ : Int) i (fn rs i)) b * ld L fs a b) n = _
    rw [hfn]
    have okr := ok ρ
    have l0 : ld L fs a 0 = 0 := ld_zero ok 0 (Nat.zero_le _)
    obtain ⟨t, ht⟩ : ∃ t, t = tgt n fs ret (at_ : Int) i (ρ : Int) := ⟨_, rfl⟩
    have ht2 : -1 ≤ t ∧ t < n ∧ lowV (ld L fs a) t = if i = at_ then (if ρ + 1 = n then 0 else ld L fs a (ρ + 1)) else lowV (ld L fs a) (fs ρ) := by
      rw [ht]
      unfold tgt
      rw [Int.toNat_natCast]
      by_cases h : i = at_
      · rw [if_pos (show (i : Int) = (at_ : Int) by omega), if_pos h]
        by_cases h2 : ρ + 1 = n
        · rw [if_pos (by omega), if_pos h2]
          cases ret
          · exact ⟨by decide, by simp; omega, rfl⟩
          · exact ⟨by decide, by simp; omega, l0⟩
        · rw [if_neg (by omega), if_neg h2]
          refine ⟨by omega, by omega, ?_⟩
          unfold lowV
          rw [if_neg (by omega), show ((ρ : Int) + 1).toNat = ρ + 1 by omega]
      · rw [if_neg (show ¬ (i : Int) = (at_ : Int) by omega), if_neg h, if_neg (by omega)]
        exact ⟨by omega, by omega, rfl⟩
    rw [← ht, sm_bst _ _ ρ t hρ ht2.1 ht2.2.1, ih, ht2.2.2]
    have m1 : (((i + 1 : Nat) : Int)) * ld L fs a ρ = (i : Int) * ld L fs a ρ + ld L fs a ρ := by rw [Int.natCast_succ, Int.add_mul, Int.one_mul]
    have m2 : (((i + 1 : Nat) : Int)) * lowV (ld L fs a) (fs ρ) = (i : Int) * lowV (ld L fs a) (fs ρ) + lowV (ld L fs a) (fs ρ) := by rw [Int.natCast_succ, Int.add_mul, Int.one_mul]
    have m3 : ((((i + 1 : Nat) : Int)) - 1) * lowV (ld L fs a) (fs ρ) = (i : Int) * lowV (ld L fs a) (fs ρ) := by rw [show (((i + 1 : Nat) : Int)) - 1 = (i : Int) by omega]
    have m4 : ((i : Int) - 1) * lowV (ld L fs a) (fs ρ) = (i : Int) * lowV (ld L fs a) (fs ρ) - lowV (ld L fs a) (fs ρ) := by rw [Int.sub_mul, Int.one_mul]
    rw [m1, m2, m3, m4]
    generalize (i : Int) * lowV (ld L fs a) (fs ρ) = X
    generalize (i : Int) * ld L fs a ρ = Y
    generalize (if ρ + 1 = n then (0 : Int) else ld L fs a (ρ + 1)) = U
    by_cases h1 : at_ < i
    · rw [if_pos h1, if_neg (by omega), if_pos (by omega)]
      omega
    · rw [if_neg h1]
      by_cases h2 : i = at_
      · rw [if_pos h2, if_pos (by omega)]
        omega
      · rw [if_neg h2, if_neg (by omega)]
        omega
theorem meet_all {L : Int} {n : Nat} {fs cs : Nat → Int} {ret : Bool} {rs : List Int} (ok : OkF fs) {ρ : Nat} (hρ : ρ < n) (a at_ : Nat) (hall : ∀ y ∈ rs, y = (ρ : Int)) (hL : (rs.length : Int) = L) (hat : at_ < rs.length) :
    sm (fun b => bhN n fs ret (at_ : Int) rs cs rs.length b * ld L fs a b) n - sm (fun b => cs b * ld L fs a b) n + (if ρ + 1 = n then ld L fs a n else 0) = if a = ρ then 1 else 0 := by
  have h := meet_i (L := L) (cs := cs) (ret := ret) ok hρ a at_ hall rs.length (Nat.le_refl _)
  rw [if_pos hat, hL] at h
  have h2 := ld_succ (L := L) ok a ρ
  unfold Ld.dl at h2
  rw [h]
  have h3 : (if a = ρ then (1 : Int) else 0) = if ρ = a then 1 else 0 := by by_cases e : a = ρ <;> simp [e]; omega
  rw [h3]
  generalize L * ld L fs a ρ = Y at *
  generalize (L - 1) * lowV (ld L fs a) (fs ρ) = X at *
  by_cases e : ρ + 1 = n
  · rw [if_pos e, if_pos e, ← e, h2]
    omega
  · rw [if_neg e, if_neg e, h2]
    omega
theorem bhN_le (n : Nat) (fs : Nat → Int) (ret : Bool) (at_ : Int) (rs : List Int) (cs : Nat → Int) (j : Nat) : ∀ i, bhN n fs ret at_ rs cs i j ≤ cs j + (i : Nat)
  | 0 => by show cs j ≤ cs j + _; omega
  | i + 1 => by
    have ih := bhN_le n fs ret at_ rs cs j i
    show bst (bhN n fs ret at_ rs cs i) (fn rs i) (tgt n fs ret at_ i (fn rs i)) j ≤ _
    unfold bst
    split <;> split <;> omega
end
end L25

namespace L25
set_option exponentiation.threshold 2000
open SX Ld
section
variable {P : Program} {w : World} {K : PySem.W.Frag} {mg : Str → Option Value} {base : Heap} {Z : Ad}
theorem g_popAt {p : Addr} {xs : List V} {j : Nat} {v : V} {H : Hp} {Q : VK} (h : H p = some (.lst xs)) (hj : xs[j]? = some v) (hn : xs.length < 2 ^ 62) (q : Q v (upd H p (.lst (xs.eraseIdx j)))) : rPopAt (.ref p) [.int (j : Int)] H Q := by
  have hl := (List.getElem?_eq_some_iff.mp hj).1
  exact ⟨p, xs, (j : Int), j, v, rfl, rfl, h, by omega, by omega, (ixN_seq (ixN_at hl)).1, hj, q⟩
theorem count_erase (y v : Int) : ∀ (l : List Int) (j : Nat), l[j]? = some v → l.count y = (l.eraseIdx j).count y + (if v = y then 1 else 0)
  | [], _, h => by simp at h
  | a :: l, 0, h => by
    simp only [List.getElem?_cons_zero, Option.some.injEq] at h
    subst h
    rw [List.eraseIdx_cons_zero, List.count_cons]
    simp only [beq_iff_eq]
  | a :: l, j + 1, h => by
    rw [List.getElem?_cons_succ] at h
    rw [List.eraseIdx_cons_succ, List.count_cons, List.count_cons, count_erase y v l j h]
    omega
theorem map_eraseV : ∀ (l : List Int) (j : Nat), (l.map V.int).eraseIdx j = (l.eraseIdx j).map V.int
  | [], _ => rfl
  | a :: l, 0 => rfl
  | a :: l, j + 1 => by
    rw [List.map_cons, List.eraseIdx_cons_succ, map_eraseV l j, List.eraseIdx_cons_succ, List.map_cons]
def sp_kcalled : Sp := fun vs H Q _ => ∃ (st p fl q : Addr) (L : Int) (n : Nat) (cs : Nat → Int) (ret : Bool), vs = [.ref st, .ref p, .ref q] ∧ Stk H st ∧ H p = some (.lst [.int L, .ref fl, .bl ret]) ∧ IL H q n cs ∧ st ≠ p ∧ st ≠ q ∧ 2 ≤ L ∧ L ≤ 6 ∧ 0 < n ∧ n ≤ 40 ∧ (∀ i, i < n → 0 ≤ cs i) ∧ L ≤ sm cs n ∧ ∀ r (rs : List Int) H', H r = none → Stk H' st → Off st H H' → H' r = some (.lst (rs.map V.int)) → (rs.length : Int) = L → (∀ y ∈ rs, 0 ≤ y ∧ y < n) → (∀ i, i < n → (rs.count (i : Int) : Nat) ≤ cs i) → Q (.ref r) H'
theorem d_law_k25_called (T : Txt K w mg Z) : Dfn P w K mg base 2 "_law_k25_called" ["stock", "plain", "counts"] (sp_kcalled) := by
  obtain ⟨f, fd, F, hm, hb⟩ := T.f_law_k25_called
  refine ⟨f, fd, F.ok sc_law_k25_called (fun vs H Q E h => by first | (obtain ⟨rfl, _⟩ := h; rfl) | (obtain ⟨_, rfl, _⟩ := h; rfl) | (obtain ⟨_, _, rfl, _⟩ := h; rfl) | (obtain ⟨_, _, _, rfl, _⟩ := h; rfl) | (obtain ⟨_, _, _, _, rfl, _⟩ := h; rfl) | (obtain ⟨_, _, _, _, _, rfl, _⟩ := h; rfl) | (obtain ⟨_, _, _, _, _, _, rfl, _⟩ := h; rfl) | (obtain ⟨_, _, _, _, _, _, _, rfl, _⟩ := h; rfl) | (obtain ⟨_, _, _, _, _, _, _, _, rfl, _⟩ := h; rfl) | (obtain ⟨_, _, _, _, _, _, _, _, _, rfl, _⟩ := h; rfl) | (obtain ⟨_, _, _, _, _, _, _, _, _, _, rfl, _⟩ := h; rfl) | (obtain ⟨_, _, _, _, _, _, _, _, _, _, _, rfl, _⟩ := h; rfl) | (obtain ⟨_, _, _, _, _, _, _, _, _, _, _, _, rfl, _⟩ := h; rfl) | (obtain ⟨_, _, _, _, _, _, _, _, _, _, _, _, _, rfl, _⟩ := h; rfl) | (obtain ⟨_, _, _, _, _, _, _, _, _, _, _, _, _, _, rfl, _⟩ := h; rfl) | (obtain ⟨_, _, _, _, _, _, _, _, _, _, _, _, _, _, _, rfl, _⟩ := h; rfl) | (obtain ⟨_, _, _, _, _, _, _, _, _, _, _, _, _, _, _, _, rfl, _⟩ := h; rfl)) (fun cdv A outer s H vs Q E hr h => ?_), hm, F.kp, hb⟩
  obtain ⟨st, p, fl, q, L, n, cs, ret, rfl, hs, hp, hq, np, nq, lo2, lo6, n0, n40, h0, hsm, k⟩ := h
  have hq' := hq
  unfold IL at hq'
  have D_law_draw := d_law_draw (P := P) (base := base) T
  refine ⟨_, (pss_cons (ps_set (i := 3) sc_law_k25_called.nd rfl (.inr rfl) (pe_ix ix_seq (pv 1) pe_int (fun _ _ => rfl)))
      (pss_cons (ps_setLc (i := 4) (own := [("rung", 6)]) (by rfl) sc_law_k25_called.nd rfl rfl (sw_true rfl rfl rfl (by decide +kernel)) (pi_range1 (by rfl) T.b_range (pa_cons (pe_callB call_uLen (by rfl) T.b_len bt_len (pa_cons (pv 2) pa_nil)) pa_nil)) (blkOk_by (N := n_law_k25_called) (sc := defScope st_law_k25_called) (by decide +kernel)) (fun _ _ _ _ _ => (pg_name (i := 6) sc_law_k25_called.nd rfl (.inl rfl))) (fun _ _ _ _ _ => (pts_one (pt_cmpR op_ge (pe_ix (ix_seqK (K := K) rfl) (pv 2) (pv 6) (fun _ _ => rfl)) (pv 3) (nomark _)))) (fun _ _ _ _ _ => (pv 6)))
      (pss_cons (ps_if (PW.pt (pw_and (pt_cmpR (op_uNe hr.units) (pv 4) (pe_lst pa_nil) (nomark _)) (pw_and1 (pt_cmpR (op_uEq hr.units) (pe_dfn D_law_draw (hr.mono (by decide)) (by rfl) (pa_cons (pv 0) (pa_cons pe_int pa_nil))) pe_int (nomark _))))) (pss_one (ps_ret (pe_op op_rep (pe_lst (pa_cons (pe_ix ix_seq (pv 4) (pe_dfn D_law_draw (hr.mono (by decide)) (by rfl) (pa_cons (pv 0) (pa_cons (pe_callB call_uLen (by rfl) T.b_len bt_len (pa_cons (pv 4) pa_nil)) pa_nil))) (fun _ _ => rfl)) pa_nil)) (pv 3)))) pss_nil)
      (pss_cons (ps_set (i := 5) sc_law_k25_called.nd rfl (.inr rfl) (pe_lst pa_nil))
      (pss_cons (ps_for PassesOwn.never rfl (pi_range1 (by rfl) T.b_range (pa_cons (pe_callB call_uLen (by rfl) T.b_len bt_len (pa_cons (pv 2) pa_nil)) pa_nil)) (pg_name (i := 6) sc_law_k25_called.nd rfl (.inl rfl))
        (pss_one (ps_for PassesOwn.never rfl (pi_range1 (by rfl) T.b_range (pa_cons (pe_callB (call_uMin2 rfl) (by rfl) T.b_min bt_min (pa_cons (pv 3) (pa_cons (pe_ix ix_seq (pv 2) (pv 6) (fun _ _ => rfl)) pa_nil))) pa_nil)) (pg_name (i := 7) sc_law_k25_called.nd rfl (.inl rfl))
        (pss_one (ps_expr (pe_bm PySem.F.plainAttrs_list PySem.F.slot_list_append PySem.F.type_list_append mt_append (pv 5) (pa_cons (pv 6) pa_nil)))))))
      (pss_one (ps_ret (pe_lc (own := [("turn", 7)]) (by rfl) sc_law_k25_called.nd (pi_range1 (by rfl) T.b_range (pa_cons (pv 3) pa_nil)) (blkOk_by (N := n_law_k25_called) (sc := defScope st_law_k25_called) (by decide +kernel)) (fun _ _ _ _ _ => (pg_name (i := 7) sc_law_k25_called.nd rfl (.inl rfl))) (fun _ _ _ _ _ => pts_nil) (fun _ _ _ _ _ => (pe_bmX (K := K) rfl PySem.F.plainAttrs_list PySem.F.slot_list_pop PySem.F.type_list_pop mt_popAt (pv 5) (pa_cons (pe_dfn D_law_draw (hr.mono (by decide)) (by rfl) (pa_cons (pv 0) (pa_cons (pe_callB (call_uLenK (K := K) rfl) (by rfl) T.b_len bt_len (pa_cons (pv 5) pa_nil)) pa_nil))) pa_nil))))))))))), ?_⟩
  try dsimp only [cxOf, Cx.nox, Cx.wish]
  show (_ : TS) _ [some _, some _, some _, none, none, none, none, none] _
  o_readsAll
  rw [rng_len, Int.toNat_natCast]
  refine l_itF walk_range (fun D i acc H' => ∃ l : List Int, acc = l.map V.int ∧ l.length ≤ i ∧ Same H H' ∧ ∀ y ∈ l, 0 ≤ y ∧ y < n ∧ L ≤ cs y.toNat) (fun D hD => ⟨[], rfl, Nat.le_refl _, Eg.Same.put (Same.refl _) hD, fun _ h => nomatch h⟩) (fun _ _ _ _ _ _ _ _ => trivial) (fun D i x acc H1 H' hD hi e p y => ?_) (fun D acc H' hD e p => ?_)
  · obtain ⟨y1, y2⟩ := y
    subst y1 y2
    obtain ⟨l, rfl, hl, e1, hb⟩ := p
    show gName 6 (V.int (0 + (i : Nat))) _ _ _
    rw [Int.zero_add]
    refine ⟨rfl, ?_⟩
    have q1e := e1 _ _ hq'
    o_readsAll
    refine g_ixL (.of q1e) (atI_nat (rng_at hi)) ?_
    o_readsAll
    refine br (fun hc => ?_) (fun hc => ?_)
    · o_readsAll
      refine ⟨_, e, by rw [List.length_map, sizeLine_eq]; omega, l ++ [(i : Int)], by rw [List.map_append]; rfl, by rw [List.length_append]; exact Nat.succ_le_succ hl, Eg.Same.put e1 hD, fun y hy => ?_⟩
      rcases List.mem_append.mp hy with z | z
      · exact hb y z
      · rw [List.mem_singleton.mp z]
        exact ⟨by omega, by omega, by rw [Int.toNat_natCast]; exact hc⟩
    · exact ⟨_, e, l, rfl, by omega, e1, hb⟩
  · obtain ⟨l, rfl, hl, e1, hb⟩ := p
    have s1 := hs.same e1
    have hq1 := e1 _ _ hq'
    have nD : st ≠ D := hs.ne hD
    o_readsAll
    rename_i Nx hNx nl H2 fnl e2 hnl
    have hD2 := e2 _ _ e
    refine g_neIL (l := l) (m := []) (.of hD2) (.of hnl) ?_
    have s2 := s1.same e2
    have e02 := e1.trans e2
    have hp2 := e02 _ _ hp
    have hq2 := e02 _ _ hq'
    clear hnl
    have rest : ∀ H3, Stk H3 st → Off st H H3 → Nx [some (.ref st), some (.ref p), some (.ref q), some (.int L), some (.ref D), none, none, none] H3 := by
      intro H3 s3 o3
      clear hD2 hq1 e1 e2 e02 s1 s2 hp2 hq2
      have hq3 := o3 _ _ nq.symm hq'
      o_readsAll
      rename_i lf H4 flf e4 hlf N1 hN1
      have o4 := o3.same e4
      have s4 := s3.same e4
      have flf0 : H lf = none := s3.free o3 flf
      have nlf : st ≠ lf := s3.ne flf
      have hq4 := o4 _ _ nq.symm hq'
      rw [rng_len, Int.toNat_natCast]
      refine f_rng (fun i σ' H' => ∃ (x y : Option V) (l : List Int), σ' = [some (.ref st), some (.ref p), some (.ref q), some (.int L), some (.ref D), some (.ref lf), x, y] ∧ Stk H' st ∧ Off st H H' ∧ H' lf = some (.lst (l.map V.int)) ∧ (∀ z ∈ l, 0 ≤ z ∧ z < i) ∧ (∀ j : Nat, j < n → (l.count (j : Int) : Nat) ≤ cs j) ∧ (L ≤ l.length ∨ sm cs i ≤ l.length) ∧ l.length ≤ 6 * i) ⟨_, _, [], rfl, s4, o4, hlf, fun _ h => (nomatch h), fun j hj => h0 j hj, .inr (Int.le_refl _), Nat.le_refl _⟩ ?_ ?_
      · rintro i σ' H5 hi ⟨x, y, l5, rfl, s5, o5, hlf5, hz, hct, hlen, hle⟩
        rw [Int.zero_add]
        have hq5 := o5 _ _ nq.symm hq'
        have ci := h0 i hi
        o_readsAll
        refine g_ixL (.of hq5) (atI_nat (rng_at hi)) ?_
        o_readsAll
        obtain ⟨m, hm⟩ : ∃ m : Nat, (if cs i < L then cs i else L) = (m : Int) := ⟨_, (Int.toNat_of_nonneg (by split <;> omega)).symm⟩
        have hm1 : ((m : Int) = cs i ∧ cs i < L) ∨ ((m : Int) = L ∧ L ≤ cs i) := by split at hm <;> omega
        rw [hm, Int.toNat_natCast]
        refine f_rng (fun t σ' H' => ∃ (y : Option V), σ' = [some (.ref st), some (.ref p), some (.ref q), some (.int L), some (.ref D), some (.ref lf), some (.int (i : Int)), y] ∧ Stk H' st ∧ Off st H H' ∧ H' lf = some (.lst ((l5 ++ List.replicate t (i : Int)).map V.int))) ⟨_, rfl, s5, o5, by rw [List.replicate_zero, List.append_nil]; exact hlf5⟩ ?_ ?_
        · rintro t σ' H6 ht ⟨y, rfl, s6, o6, h6⟩
          have hsz : ((l5 ++ List.replicate t (i : Int)).map V.int).length < sizeLine := by rw [List.length_map, List.length_append, List.length_replicate, sizeLine_eq]; omega
          rw [Int.zero_add]
          o_readsAll
          refine ⟨_, rfl, s6.put nlf, Off.putN o6 flf0, ?_⟩
          rw [upd_same, List.replicate_succ', ← List.append_assoc, List.map_append (l₂ := [(i : Int)])]
          rfl
        · rintro σ' H6 ⟨y, rfl, s6, o6, h6⟩
          have hci : l5.count (i : Int) = 0 := List.count_eq_zero.mpr fun h => by have := hz _ h; omega
          refine ⟨_, _, _, rfl, s6, o6, h6, fun z h => ?_, fun j hj => ?_, ?_, ?_⟩
          · rcases List.mem_append.mp h with h | h
            · have := hz z h; omega
            · rw [List.eq_of_mem_replicate h]; omega
          · rw [List.count_append, List.count_replicate]
            have := hct j hj
            by_cases hij : i = j
            · subst hij
              rw [hci]
              simp only [beq_self_eq_true, if_true]
              omega
            · rw [if_neg (by rw [beq_iff_eq]; omega)]
              omega
          · rw [List.length_append, List.length_replicate]
            show L ≤ _ ∨ sm cs i + cs i ≤ _
            omega
          · rw [List.length_append, List.length_replicate]
            omega
      · rintro σ' H5 ⟨x, y, l5, rfl, s5, o5, hlf5, hz, hct, hlen, hle⟩
        have h5 : L ≤ l5.length := by omega
        clear hlf hq3 hq4 s4 o4 s3 o3
        obtain ⟨Ln, rfl⟩ : ∃ Ln : Nat, L = (Ln : Int) := ⟨L.toNat, by omega⟩
        o_readsAll
        rw [Int.toNat_natCast]
        refine l_it walk_range (fun D2 t acc H' => ∃ (l rest : List Int), acc = l.map V.int ∧ l.length = t ∧ Stk H' st ∧ Off st H H' ∧ H' lf = some (.lst (rest.map V.int)) ∧ rest.length + t = l5.length ∧ ∀ z, l.count z + rest.count z = l5.count z) (fun D2 hD2 => ⟨[], l5, rfl, rfl, s5.put (s5.ne hD2), Off.putN o5 (s5.free o5 hD2), by rw [upd_ne (ne_of_none hlf5 hD2)]; exact hlf5, rfl, fun z => by simp⟩) (fun D i acc H' hD _ _ p => trivial) (fun D2 t x acc H6 H' hD2 ht e le p y => ?_) (fun D2 acc H' hD2 e _ p => ?_)
        · obtain ⟨y1, y2⟩ := y
          subst y1 y2
          obtain ⟨l6, r6, rfl, hl6, s6, o6, h6, hrl, hcc⟩ := p
          refine ⟨rfl, ?_⟩
          have nD2 := s5.ne hD2
          have nDl : D2 ≠ lf := (ne_of_none hlf5 hD2).symm
          o_readsAll
          rw [List.length_map]
          refine c_draw (by omega) (by omega) s6 fun r7 H7 r70 r71 s7 o7 => ?_
          obtain ⟨a, rfl⟩ : ∃ a : Nat, r7 = (a : Int) := ⟨r7.toNat, by omega⟩
          have h7 := o7 _ _ nlf.symm h6
          have e7 := o7 _ _ nD2.symm e
          have hra := List.getElem?_eq_getElem (l := r6) (i := a) (by omega)
          have hal : a < r6.length := by omega
          generalize r6[a]'hal = v at hra
          o_readsAll
          refine g_popAt (v := .int v) h7 (by rw [List.getElem?_map, hra]; rfl) (by rw [List.length_map]; omega) ?_
          rw [map_eraseV]
          refine g_item (by rw [upd_ne nDl]; exact e7) (by rw [List.length_map]; exact hl6) (by rw [sizeLine_eq]; omega) ⟨l6 ++ [v], r6.eraseIdx a, by rw [List.map_append]; rfl, by rw [List.length_append, hl6]; rfl, (s7.put nlf).put nD2, Off.putN (Off.putN (o6.trans o7) flf0) (s5.free o5 hD2), by rw [upd_ne nDl.symm, upd_same], ?_, fun z => ?_⟩
          · rw [List.length_eraseIdx_of_lt hal]
            omega
          · have h1 := hcc z
            rw [count_erase z v r6 a hra] at h1
            rw [List.count_append, List.count_singleton]
            simp only [beq_iff_eq] at h1 ⊢
            omega
        · obtain ⟨l6, r6, rfl, hl6, s6, o6, h6, hrl, hcc⟩ := p
          refine k D2 l6 H' (s5.free o5 hD2) s6 o6 e (by rw [hl6]) (fun z hzm => ?_) (fun j hj => ?_)
          · have hp1 : 0 < l6.count z := List.count_pos_iff.mpr hzm
            have := hcc z
            have hp2 : 0 < l5.count z := by omega
            exact hz z (List.count_pos_iff.mp hp2)
          · have := hcc (j : Int)
            have := hct j hj
            omega
    o_readsAll
    refine brn (fun hc => ?_) (fun hc => ?_)
    · o_readsAll
      refine c_draw (by decide) (by decide) s2 fun r3 H3 r30 r31 s3 o3 => ?_
      o_readsAll
      refine br (fun hc3 => ?_) (fun hc3 => ?_)
      · have hD3 := o3 _ _ nD.symm hD2
        o_readsAll
        rw [List.length_map]
        have hl0 : 0 < l.length := List.length_pos_iff.mpr hc
        refine c_draw (by omega) (by omega) s3 fun r4 H4 r40 r41 s4 o4 => ?_
        obtain ⟨a, rfl⟩ : ∃ a : Nat, r4 = (a : Int) := ⟨r4.toNat, by omega⟩
        have hD4 := o4 _ _ nD.symm hD3
        have hla := List.getElem?_eq_getElem (l := l) (i := a) (by omega)
        have hbm := hb _ (List.getElem_mem (l := l) (n := a) (by omega))
        generalize l[a]'(by omega) = y at *
        refine g_ixL (v := .int y) (.of hD4) (atI_nat (by rw [List.getElem?_map, hla]; rfl)) ?_
        have ca := hbm.2.2
        obtain ⟨Ln, rfl⟩ : ∃ Ln : Nat, L = (Ln : Int) := ⟨L.toNat, by omega⟩
        o_readsAll
        rename_i one H5 fone e5 hone
        refine g_rep hone (by omega) (by rw [sizeLine_eq]; simp; omega) fun r H6 fr e6 hr => ?_
        have e56 := e5.trans e6
        have f6 : H r = none := e02.free (s3.free o3 (s4.free o4 (e5.free fr)))
        have hr' : H6 r = some (.lst ((List.replicate Ln y).map V.int)) := by
          rw [hr]
          refine congrArg (fun z => some (HO.lst z)) ?_
          rw [List.map_replicate]
          rw [List.flatten_replicate_singleton]
        refine k r (List.replicate Ln y) H6 f6 (s4.same e56) (((off_of e02).trans (o3.trans o4)).same e56) hr' (by rw [List.length_replicate]) (fun z hz => ?_) (fun i hi => ?_)
        · rw [List.eq_of_mem_replicate hz]
          exact ⟨hbm.1, hbm.2.1⟩
        · rw [List.count_replicate]
          split
          · rename_i hyi
            have hyi := eq_of_beq hyi
            rw [hyi, Int.toNat_natCast] at ca
            exact ca
          · exact h0 i hi
      · exact rest _ s3 ((off_of e02).trans o3)
    · refine brF rfl ?_
      exact rest _ s2 (off_of e02)
theorem c_kcalled {st p fl q : Addr} {L : Int} {n : Nat} {cs : Nat → Int} {ret : Bool} {H : Hp} {Q : VK} {E : XK} (hs : Stk H st) (hp : H p = some (.lst [.int L, .ref fl, .bl ret])) (hq : IL H q n cs) (np : st ≠ p) (nq : st ≠ q) (l2 : 2 ≤ L) (l6 : L ≤ 6) (n0 : 0 < n) (n40 : n ≤ 40) (h0 : ∀ i, i < n → 0 ≤ cs i) (hsm : L ≤ sm cs n) (k : ∀ r (rs : List Int) H', H r = none → Stk H' st → Off st H H' → H' r = some (.lst (rs.map V.int)) → (rs.length : Int) = L → (∀ y ∈ rs, 0 ≤ y ∧ y < n) → (∀ i, i < n → (rs.count (i : Int) : Nat) ≤ cs i) → Q (.ref r) H') : sp_kcalled [.ref st, .ref p, .ref q] H Q E := ⟨st, p, fl, q, L, n, cs, ret, rfl, hs, hp, hq, np, nq, l2, l6, n0, n40, h0, hsm, k⟩
end
end L25

namespace L25
set_option exponentiation.threshold 2000
open SX Ld
section
variable {P : Program} {w : World} {K : PySem.W.Frag} {mg : Str → Option Value} {base : Heap} {Z : Ad}
def sp_krr (Z : Ad) : Sp := fun vs H Q _ => ∃ (t : Addr) (L : Int) (n : Nat) (fs : Nat → Int) (ret : Bool) (cs : Nat → Int), vs = [.ref t, .int (n : Int)] ∧ TabAt Z.a_Table Z.a_Ladder H t L n fs ret cs ∧ TOk L n fs cs ∧ LamX.Tabs (tabs Z) H ∧ ∀ H', LamX.ExtN H H' → Q (.bl true) H'
theorem d_law_k25_rungs_refused (T : Txt K w mg Z) (B : Bas Z mg base) : Dfn P w K mg base 12 "_law_k25_rungs_refused" ["table", "rungs"] (sp_krr Z) := by
  obtain ⟨f, fd, F, hc, hm, hb⟩ := T.f_law_k25_rungs_refused
  refine ⟨f, fd, okC F hc sc_law_k25_rungs_refused (fun vs H Q E h => by first | (obtain ⟨rfl, _⟩ := h; rfl) | (obtain ⟨_, rfl, _⟩ := h; rfl) | (obtain ⟨_, _, rfl, _⟩ := h; rfl) | (obtain ⟨_, _, _, rfl, _⟩ := h; rfl) | (obtain ⟨_, _, _, _, rfl, _⟩ := h; rfl) | (obtain ⟨_, _, _, _, _, rfl, _⟩ := h; rfl) | (obtain ⟨_, _, _, _, _, _, rfl, _⟩ := h; rfl) | (obtain ⟨_, _, _, _, _, _, _, rfl, _⟩ := h; rfl) | (obtain ⟨_, _, _, _, _, _, _, _, rfl, _⟩ := h; rfl) | (obtain ⟨_, _, _, _, _, _, _, _, _, rfl, _⟩ := h; rfl) | (obtain ⟨_, _, _, _, _, _, _, _, _, _, rfl, _⟩ := h; rfl) | (obtain ⟨_, _, _, _, _, _, _, _, _, _, _, rfl, _⟩ := h; rfl) | (obtain ⟨_, _, _, _, _, _, _, _, _, _, _, _, rfl, _⟩ := h; rfl) | (obtain ⟨_, _, _, _, _, _, _, _, _, _, _, _, _, rfl, _⟩ := h; rfl) | (obtain ⟨_, _, _, _, _, _, _, _, _, _, _, _, _, _, rfl, _⟩ := h; rfl) | (obtain ⟨_, _, _, _, _, _, _, _, _, _, _, _, _, _, _, rfl, _⟩ := h; rfl) | (obtain ⟨_, _, _, _, _, _, _, _, _, _, _, _, _, _, _, _, rfl, _⟩ := h; rfl)) (fun A outer s H vs Q E hr h => ?_), hm, F.kp, hb⟩
  obtain ⟨t, L, n, fs, ret, cs, rfl, ht, ok, hT, k⟩ := h
  have D_law_e_refused := d_law_e_refused (P := P) (base := base) T
  have D_Table_above := d_Table_above (P := P) (base := base) T
  have D_Table_on := d_Table_on (P := P) (base := base) T
  have D_Table_load := d_Table_load (P := P) (base := base) T
  have D_Table_put := d_Table_put (P := P) (base := base) T
  have D_Table_take := d_Table_take (P := P) (base := base) T
  refine ⟨_, (pss_cons (ps_for PassesOwn.never rfl (pi_list (pe_lst (pa_cons (pe_op op_sub pe_int pe_int) (pa_cons (pv 1) pa_nil)))) (pg_name (i := 2) sc_law_k25_rungs_refused.nd rfl (.inr rfl))
        (pss_cons (ps_if (pt_not (pt_u (pe_lam (T := tabs Z) D_law_e_refused (hr.mono (by decide)) (by rfl) (pa_cons (pe_tup (pa_cons pe_str (pa_cons (pv 2) pa_nil))) pa_nil) B.b_law_k25_rungs_refused rfl (tabs_law_k25_rungs_refused Z) (tabu_law_k25_rungs_refused B) (LamX.lamS_by (sc := defScope st_law_k25_rungs_refused) (by decide +kernel)) rfl (fun _ _ _ _ _ => rfl) (fun A outer s H E f c' hr => (pe_mthS D_Table_on (hr.mono (by decide)) (takes_of rfl rfl rfl rfl) (pv 0) (pa_cons (pv 2) pa_nil))) rfl rfl))) (pss_one (ps_ret pe_bl)) pss_nil)
      (pss_cons (ps_if (pt_not (pt_u (pe_lam (T := tabs Z) D_law_e_refused (hr.mono (by decide)) (by rfl) (pa_cons (pe_tup (pa_cons pe_str (pa_cons (pv 2) pa_nil))) pa_nil) B.b_law_k25_rungs_refused rfl (tabs_law_k25_rungs_refused Z) (tabu_law_k25_rungs_refused B) (LamX.lamS_by (sc := defScope st_law_k25_rungs_refused) (by decide +kernel)) rfl (fun _ _ _ _ _ => rfl) (fun A outer s H E f c' hr => (pe_mthS D_Table_load (hr.mono (by decide)) (takes_of rfl rfl rfl rfl) (pv 0) (pa_cons (pv 2) pa_nil))) rfl rfl))) (pss_one (ps_ret pe_bl)) pss_nil)
      (pss_cons (ps_if (pt_not (pt_u (pe_lam (T := tabs Z) D_law_e_refused (hr.mono (by decide)) (by rfl) (pa_cons (pe_tup (pa_cons pe_str (pa_cons (pv 2) pa_nil))) pa_nil) B.b_law_k25_rungs_refused rfl (tabs_law_k25_rungs_refused Z) (tabu_law_k25_rungs_refused B) (LamX.lamS_by (sc := defScope st_law_k25_rungs_refused) (by decide +kernel)) rfl (fun _ _ _ _ _ => rfl) (fun A outer s H E f c' hr => (pe_mthS D_Table_put (hr.mono (by decide)) (takes_of rfl rfl rfl rfl) (pv 0) (pa_cons (pv 2) (pa_cons (pe_op op_sub pe_int pe_int) pa_nil)))) rfl rfl))) (pss_one (ps_ret pe_bl)) pss_nil)
      (pss_one (ps_if (pt_not (pt_u (pe_lam (T := tabs Z) D_law_e_refused (hr.mono (by decide)) (by rfl) (pa_cons (pe_tup (pa_cons pe_str (pa_cons (pv 2) pa_nil))) pa_nil) B.b_law_k25_rungs_refused rfl (tabs_law_k25_rungs_refused Z) (tabu_law_k25_rungs_refused B) (LamX.lamS_by (sc := defScope st_law_k25_rungs_refused) (by decide +kernel)) rfl (fun _ _ _ _ _ => rfl) (fun A outer s H E f c' hr => (pe_mthS D_Table_take (hr.mono (by decide)) (takes_of rfl rfl rfl rfl) (pv 0) (pa_cons (pv 2) (pa_cons (pe_op op_sub pe_int pe_int) pa_nil)))) rfl rfl))) (pss_one (ps_ret pe_bl)) pss_nil))))))
      (pss_cons (ps_if (pt_not (pt_u (pe_lam (T := tabs Z) D_law_e_refused (hr.mono (by decide)) (by rfl) (pa_cons (pe_tup (pa_cons pe_str (pa_cons (pe_op op_sub pe_int pe_int) pa_nil))) pa_nil) B.b_law_k25_rungs_refused rfl (tabs_law_k25_rungs_refused Z) (tabu_law_k25_rungs_refused B) (LamX.lamS_by (sc := defScope st_law_k25_rungs_refused) (by decide +kernel)) rfl (fun _ _ _ _ _ => rfl) (fun A outer s H E f c' hr => (pe_mthS D_Table_above (hr.mono (by decide)) (takes_of rfl rfl rfl rfl) (pv 0) (pa_cons (pe_op op_sub pe_int pe_int) pa_nil))) rfl rfl))) (pss_one (ps_ret pe_bl)) pss_nil)
      (pss_one (ps_ret (pe_lam (T := tabs Z) D_law_e_refused (hr.mono (by decide)) (by rfl) (pa_cons (pe_tup (pa_cons pe_str (pa_cons (pv 1) pa_nil))) pa_nil) B.b_law_k25_rungs_refused rfl (tabs_law_k25_rungs_refused Z) (tabu_law_k25_rungs_refused B) (LamX.lamS_by (sc := defScope st_law_k25_rungs_refused) (by decide +kernel)) rfl (fun _ _ _ _ _ => rfl) (fun A outer s H E f c' hr => (pe_mthS D_Table_above (hr.mono (by decide)) (takes_of rfl rfl rfl rfl) (pv 0) (pa_cons (pv 1) pa_nil))) rfl rfl))))), ?_⟩
  try dsimp only [cxOf, Cx.nox, Cx.wish]
  show (_ : TS) _ [some _, some _, none] _
  have n40 := ok.n40
  have ht' := ht
  obtain ⟨dx, l, cl, i1, i2, i3⟩ := ht'
  o_readsAll
  rename_i N hN ls H1 fls e1 hls
  have ht := ht.same e1
  have i1 := e1 _ _ i1
  refine f_lst (xs := [.int (-1), .int (n : Int)]) (fun i σ' H' => ∃ x, σ' = [some (.ref t), some (.int (n : Int)), x] ∧ LamX.ExtN H1 H' ∧ LamX.Tabs (tabs Z) H') ⟨_, rfl, LamX.ExtN.refl _, hT.ext e1⟩ ?_ ?_ ?_
  · rintro i σ' H2 hi ⟨x, rfl, x2, T2⟩
    exact .of (x2 _ _ hls (fun _ z => nomatch z))
  · rintro i y σ' H2 hy ⟨x, rfl, x2, T2⟩
    obtain ⟨a, rfl, ha⟩ : ∃ a : Int, y = .int a ∧ ¬ (0 ≤ a ∧ a < n) := by
      match i with
      | 0 => cases hy; exact ⟨_, rfl, by omega⟩
      | 1 => cases hy; exact ⟨_, rfl, by omega⟩
      | i + 2 => cases hy
    o_readsAll
    refine i_lam2 T2 fun H3 e3 T3 c3 hc3 => ?_
    o_readsAll
    rename_i d4 H4 fd4 e4 hd4
    have x4 : LamX.ExtN H1 H4 := (x2.trans e3).trans (ext_of e4)
    have ht4 := ht.ext x4
    have i4 := x4 _ _ i1 (fun _ z => nomatch z)
    refine c_refused (v := .int _) err_BadLadder trivial hd4 (fun E1 Q1 h1 => ⟨e4 _ _ hc3, ?_⟩) fun H5 e5 => ?_
    · o_readsAll
      exact ⟨t, _, L, n, fs, ret, cs, rfl, ht4, fun a' e h => absurd ⟨by omega, by omega⟩ ha, fun _ d H' fd e hd => h1 d H' e hd⟩
    have x5 := x4.trans (ext_of e5)
    have T5 := (T3.ext e4).ext e5
    o_readsAll
    refine i_lam2 T5 fun H6 e6 T6 c6 hc6 => ?_
    o_readsAll
    rename_i d7 H7 fd7 e7 hd7
    have x7 : LamX.ExtN H1 H7 := (x5.trans e6).trans (ext_of e7)
    have ht7 := ht.ext x7
    have i7 := x7 _ _ i1 (fun _ z => nomatch z)
    refine c_refused (v := .int _) err_BadLadder trivial hd7 (fun E1 Q1 h1 => ⟨e7 _ _ hc6, ?_⟩) fun H8 e8 => ?_
    · o_readsAll
      exact ⟨t, _, L, n, fs, ret, cs, rfl, ht7, ok, fun a' e h => absurd ⟨by omega, by omega⟩ ha, fun _ d H' fd e hd => h1 d H' e hd⟩
    have x8 := x7.trans (ext_of e8)
    have T8 := (T6.ext e7).ext e8
    o_readsAll
    refine i_lam2 T8 fun H9 e9 T9 c9 hc9 => ?_
    o_readsAll
    rename_i d10 H10 fd10 e10 hd10
    have x10 : LamX.ExtN H1 H10 := (x8.trans e9).trans (ext_of e10)
    have ht10 := ht.ext x10
    have i10 := x10 _ _ i1 (fun _ z => nomatch z)
    refine c_refused (v := .int _) err_BadLadder trivial hd10 (fun E1 Q1 h1 => ⟨e10 _ _ hc9, ?_⟩) fun H11 e11 => ?_
    · o_readsAll
      exact ⟨t, _, _, L, n, fs, ret, cs, rfl, ht10, ok.n40, ok.c0, fun a' e h => absurd ⟨by omega, by omega⟩ ha, fun _ d H' fd e hd => h1 d H' e hd, fun h h' => absurd ⟨h, h'⟩ ha⟩
    have x11 := x10.trans (ext_of e11)
    have T11 := (T9.ext e10).ext e11
    o_readsAll
    refine i_lam2 T11 fun H12 e12 T12 c12 hc12 => ?_
    o_readsAll
    rename_i d13 H13 fd13 e13 hd13
    have x13 : LamX.ExtN H1 H13 := (x11.trans e12).trans (ext_of e13)
    have ht13 := ht.ext x13
    have i13 := x13 _ _ i1 (fun _ z => nomatch z)
    refine c_refused (v := .int _) err_BadLadder trivial hd13 (fun E1 Q1 h1 => ⟨e13 _ _ hc12, ?_⟩) fun H14 e14 => ?_
    · o_readsAll
      exact ⟨t, _, _, L, n, fs, ret, cs, rfl, ht13, ok.n40, ok.c0, fun a' e h => absurd ⟨by omega, by omega⟩ ha, fun _ d H' fd e hd => h1 d H' e hd, fun a' e h => absurd ⟨by omega, by omega⟩ ha⟩
    have x14 := x13.trans (ext_of e14)
    have T14 := (T12.ext e13).ext e14
    o_readsAll
    exact ⟨_, rfl, x14, T14⟩
  · rintro σ' H2 ⟨x, rfl, x2, T2⟩
    o_readsAll
    refine i_lam2 T2 fun H3 e3 T3 c3 hc3 => ?_
    o_readsAll
    rename_i d4 H4 fd4 e4 hd4
    have x4 : LamX.ExtN H1 H4 := (x2.trans e3).trans (ext_of e4)
    have ht4 := ht.ext x4
    have i4 := x4 _ _ i1 (fun _ z => nomatch z)
    refine c_refused (v := .int _) err_BadLadder trivial hd4 (fun E1 Q1 h1 => ⟨e4 _ _ hc3, ?_⟩) fun H5 e5 => ?_
    · o_readsAll
      exact ⟨t, _, L, n, fs, ret, cs, rfl, ht4, fun r e h => absurd e (by omega), fun _ d H' fd e hd => h1 d H' e hd⟩
    have x5 := x4.trans (ext_of e5)
    have T5 := (T3.ext e4).ext e5
    o_readsAll
    refine i_lam2 T5 fun H6 e6 T6 c6 hc6 => ?_
    o_readsAll
    rename_i d7 H7 fd7 e7 hd7
    have x7 : LamX.ExtN H1 H7 := (x5.trans e6).trans (ext_of e7)
    have ht7 := ht.ext x7
    have i7 := x7 _ _ i1 (fun _ z => nomatch z)
    refine c_refused (v := .int _) err_BadLadder trivial hd7 (fun E1 Q1 h1 => ⟨e7 _ _ hc6, ?_⟩) fun H8 e8 => ?_
    · o_readsAll
      exact ⟨t, _, L, n, fs, ret, cs, rfl, ht7, fun r e h => absurd e (by omega), fun _ d H' fd e hd => h1 d H' e hd⟩
    have x8 := x7.trans (ext_of e8)
    have T8 := (T6.ext e7).ext e8
    o_readsAll
    exact k _ ((ext_of e1).trans x8)
theorem c_krr {t : Addr} {L : Int} {n : Nat} {fs : Nat → Int} {ret : Bool} {cs : Nat → Int} {H : Hp} {Q : VK} {E : XK} (ht : TabAt Z.a_Table Z.a_Ladder H t L n fs ret cs) (ok : TOk L n fs cs) (hT : LamX.Tabs (tabs Z) H) (k : ∀ H', LamX.ExtN H H' → Q (.bl true) H') : sp_krr Z [.ref t, .int (n : Int)] H Q E := ⟨t, L, n, fs, ret, cs, rfl, ht, ok, hT, k⟩
end
end L25

namespace L25
set_option exponentiation.threshold 2000
open SX Ld
section
variable {P : Program} {w : World} {K : PySem.W.Frag} {mg : Str → Option Value} {base : Heap} {Z : Ad}
def sp_kmoves (Z : Ad) : Sp := fun vs H Q _ => ∃ (st t p q fl : Addr) (L : Int) (n : Nat) (fs : Nat → Int) (ret : Bool) (cs : Nat → Int), vs = [.ref st, .ref t, .ref p, .ref q] ∧ Stk H st ∧ TabS Z.a_Table Z.a_Ladder st H t L n fs ret cs ∧ H p = some (.lst [.int L, .ref fl, .bl ret]) ∧ IL H fl n fs ∧ IL H q n cs ∧ st ≠ p ∧ st ≠ fl ∧ st ≠ q ∧ TOk L n fs cs ∧ (∀ i, i < n → cs i < 2 ^ 200) ∧ LamX.Tabs (tabs Z) H ∧ ∀ H', Stk H' st → OffN st H H' → LamX.Tabs (tabs Z) H' → Q (.bl true) H'
theorem d_law_k25_moves (T : Txt K w mg Z) (B : Bas Z mg base) : Dfn P w K mg base 12 "_law_k25_moves" ["stock", "table", "plain", "counts"] (sp_kmoves Z) := by
  obtain ⟨f, fd, F, hc, hm, hb⟩ := T.f_law_k25_moves
  refine ⟨f, fd, okC F hc sc_law_k25_moves (fun vs H Q E h => by first | (obtain ⟨rfl, _⟩ := h; rfl) | (obtain ⟨_, rfl, _⟩ := h; rfl) | (obtain ⟨_, _, rfl, _⟩ := h; rfl) | (obtain ⟨_, _, _, rfl, _⟩ := h; rfl) | (obtain ⟨_, _, _, _, rfl, _⟩ := h; rfl) | (obtain ⟨_, _, _, _, _, rfl, _⟩ := h; rfl) | (obtain ⟨_, _, _, _, _, _, rfl, _⟩ := h; rfl) | (obtain ⟨_, _, _, _, _, _, _, rfl, _⟩ := h; rfl) | (obtain ⟨_, _, _, _, _, _, _, _, rfl, _⟩ := h; rfl) | (obtain ⟨_, _, _, _, _, _, _, _, _, rfl, _⟩ := h; rfl) | (obtain ⟨_, _, _, _, _, _, _, _, _, _, rfl, _⟩ := h; rfl) | (obtain ⟨_, _, _, _, _, _, _, _, _, _, _, rfl, _⟩ := h; rfl) | (obtain ⟨_, _, _, _, _, _, _, _, _, _, _, _, rfl, _⟩ := h; rfl) | (obtain ⟨_, _, _, _, _, _, _, _, _, _, _, _, _, rfl, _⟩ := h; rfl) | (obtain ⟨_, _, _, _, _, _, _, _, _, _, _, _, _, _, rfl, _⟩ := h; rfl) | (obtain ⟨_, _, _, _, _, _, _, _, _, _, _, _, _, _, _, rfl, _⟩ := h; rfl) | (obtain ⟨_, _, _, _, _, _, _, _, _, _, _, _, _, _, _, _, rfl, _⟩ := h; rfl)) (fun A outer s H vs Q E hr h => ?_), hm, F.kp, hb⟩
  obtain ⟨st, t, p, q, fl, L, n, fs, ret, cs, rfl, hs, ht, hp, hf, hq, np, nf, nq, ok, hcb, hT, k⟩ := h
  have n0 := ok.n0
  have n40 := ok.n40
  unfold IL at hf hq
  have D_law_draw := d_law_draw (P := P) (base := base) T
  have D_law_e_refused := d_law_e_refused (P := P) (base := base) T
  have D_law_k25_tellers := d_law_k25_tellers (P := P) (base := base) T
  have D_Table_put := d_Table_put (P := P) (base := base) T
  have D_Table_take := d_Table_take (P := P) (base := base) T
  refine ⟨_, (pss_cons (ps_for PassesOwn.never rfl (pi_range1 (by rfl) T.b_range (pa_cons pe_int pa_nil)) (pg_name (i := 4) sc_law_k25_moves.nd rfl (.inl rfl))
        (pss_cons (ps_set (i := 5) sc_law_k25_moves.nd rfl (.inr rfl) (pe_dfn D_law_draw (hr.mono (by decide)) (by rfl) (pa_cons (pv 0) (pa_cons (pe_callB call_uLen (by rfl) T.b_len bt_len (pa_cons (pv 3) pa_nil)) pa_nil))))
      (pss_cons (ps_set (i := 6) sc_law_k25_moves.nd rfl (.inr rfl) (pe_ix ix_seq (pe_lst (pa_cons pe_int (pa_cons pe_int (pa_cons (pe_ix ix_seq (pv 3) (pv 5) (fun _ _ => rfl)) (pa_cons (pe_op op_uAdd (pe_ix ix_seq (pv 3) (pv 5) (fun _ _ => rfl)) pe_int) (pa_cons (pe_op op_pow pe_int pe_int) (pa_cons (pe_op op_sub pe_int pe_int) pa_nil))))))) (pe_dfn D_law_draw (hr.mono (by decide)) (by rfl) (pa_cons (pv 0) (pa_cons pe_int pa_nil))) (fun _ _ => rfl)))
      (pss_cons (ps_if (pt_cmpR op_lt (pv 6) pe_int (nomark _)) (pss_one (ps_if (pt_not (pt_u (pe_lam (T := tabs Z) D_law_e_refused (hr.mono (by decide)) (by rfl) (pa_cons (pe_tup (pa_cons pe_str (pa_cons (pv 5) pa_nil))) pa_nil) B.b_law_k25_moves rfl (tabs_law_k25_moves Z) (tabu_law_k25_moves B) (LamX.lamS_by (sc := defScope st_law_k25_moves) (by decide +kernel)) rfl (fun _ _ _ _ _ => rfl) (fun A outer s H E f c' hr => (pe_mthS D_Table_put (hr.mono (by decide)) (takes_of rfl rfl rfl rfl) (pv 1) (pa_cons (pv 5) (pa_cons (pv 6) pa_nil)))) rfl rfl))) (pss_one (ps_ret pe_bl)) pss_nil)) (pss_cons (ps_set (i := 7) sc_law_k25_moves.nd rfl (.inl rfl) (pe_callTy call_uList (by rfl) T.b_list bt_list (pa_cons (pv 3) pa_nil)))
      (pss_cons (ps_augS (pv 7) (pv 5) get_list (pv 6) ip_add set_list)
      (pss_one (ps_if (pt_not (pt_u (pe_dfn D_law_k25_tellers (hr.mono (by decide)) (by rfl) (pa_cons (pe_mthS D_Table_put (hr.mono (by decide)) takes0 (pv 1) (pa_cons (pv 5) (pa_cons (pv 6) pa_nil))) (pa_cons (pv 2) (pa_cons (pv 7) pa_nil)))))) (pss_one (ps_ret pe_bl)) pss_nil)))))
      (pss_one (ps_if (PW.pt (pw_or (pt_cmpR op_lt (pv 6) pe_int (nomark _)) (pw_or1 (pt_cmpR op_gt (pv 6) (pe_ix ix_seq (pv 3) (pv 5) (fun _ _ => rfl)) (nomark _))))) (pss_one (ps_if (pt_not (pt_u (pe_lam (T := tabs Z) D_law_e_refused (hr.mono (by decide)) (by rfl) (pa_cons (pe_tup (pa_cons pe_str (pa_cons (pv 5) pa_nil))) pa_nil) B.b_law_k25_moves rfl (tabs_law_k25_moves Z) (tabu_law_k25_moves B) (LamX.lamS_by (sc := defScope st_law_k25_moves) (by decide +kernel)) rfl (fun _ _ _ _ _ => rfl) (fun A outer s H E f c' hr => (pe_mthS D_Table_take (hr.mono (by decide)) (takes_of rfl rfl rfl rfl) (pv 1) (pa_cons (pv 5) (pa_cons (pv 6) pa_nil)))) rfl rfl))) (pss_one (ps_ret pe_bl)) pss_nil)) (pss_cons (ps_set (i := 7) sc_law_k25_moves.nd rfl (.inl rfl) (pe_callTy call_uList (by rfl) T.b_list bt_list (pa_cons (pv 3) pa_nil)))
      (pss_cons (ps_augS (pv 7) (pv 5) get_list (pv 6) ip_sub set_list)
      (pss_one (ps_if (pt_not (pt_u (pe_dfn D_law_k25_tellers (hr.mono (by decide)) (by rfl) (pa_cons (pe_mthS D_Table_take (hr.mono (by decide)) takes0 (pv 1) (pa_cons (pv 5) (pa_cons (pv 6) pa_nil))) (pa_cons (pv 2) (pa_cons (pv 7) pa_nil)))))) (pss_one (ps_ret pe_bl)) pss_nil))))))))))
      (pss_one (ps_ret pe_bl))), ?_⟩
  try dsimp only [cxOf, Cx.nox, Cx.wish]
  show (_ : TS) _ [some _, some _, some _, some _, none, none, none, none] _
  o_readsAll
  refine f_rng (fun i σ' H' => ∃ (x1 x2 x3 x4 : Option V), σ' = [some (.ref st), some (.ref t), some (.ref p), some (.ref q), x1, x2, x3, x4] ∧ Stk H' st ∧ OffN st H H' ∧ LamX.Tabs (tabs Z) H') ⟨_, _, _, _, rfl, hs, OffN.refl _ _, hT⟩ ?_ ?_
  · rintro i σ' H1 hi ⟨x1, x2, x3, x4, rfl, s1, o1, T1⟩
    rw [Int.zero_add]
    have hq1 := o1.lst nq hq
    o_readsAll
    rw [rng_len]
    refine c_draw (by omega) (by omega) s1 fun r2 H2 r20 r21 s2 o2 => ?_
    obtain ⟨a, rfl⟩ : ∃ a : Nat, r2 = (a : Int) := ⟨r2.toNat, by omega⟩
    have han : a < n := by omega
    have T2 := tabs_off T1 s1 o2
    have o02 := o1.off o2
    have hq2 := o02.lst nq hq
    o_readsAll
    refine g_ixL (.of hq2) (atI_nat (rng_at han)) ?_
    o_readsAll
    refine g_ixL (.of hq2) (atI_nat (rng_at han)) ?_
    o_readsAll
    rename_i ls H3 fls e3 hls
    have s3 := s2.same e3
    refine c_draw (by decide) (by decide) s3 fun r4 H4 r40 r41 s4 o4 => ?_
    obtain ⟨j, rfl⟩ : ∃ j : Nat, r4 = (j : Int) := ⟨r4.toNat, by omega⟩
    have hls4 := o4 _ _ (s2.ne fls).symm hls
    have o04 := (o02.same e3).off o4
    have T4 := tabs_off (T2.ext e3) s3 o4
    have ca0 := ok.c0 a han
    have cab := hcb a han
    obtain ⟨m, hm, hm1, hm2⟩ : ∃ m : Int, [V.int 0, V.int 1, V.int (cs a), V.int (cs a + 1), V.int (10 ^ Int.toNat 30), V.int (0 - 1)][j]? = some (V.int m) ∧ -1 ≤ m ∧ m < 2 ^ 201 := by
      match j with
      | 0 => exact ⟨_, rfl, by decide, by decide⟩
      | 1 => exact ⟨_, rfl, by decide, by decide⟩
      | 2 => exact ⟨_, rfl, by omega, by omega⟩
      | 3 => exact ⟨_, rfl, by omega, by omega⟩
      | 4 => exact ⟨_, rfl, by decide, by decide⟩
      | 5 => exact ⟨_, rfl, by decide, by decide⟩
      | j + 6 => omega
    refine g_ixL (v := .int m) (.of hls4) (atI_nat hm) ?_
    clear hm hls4 hls
    have ht4 := ht.off o04
    have hi4 := ht4.at
    obtain ⟨dx, l, cl, i1, i2, i3⟩ := hi4
    have hp4 := o04.lst np hp
    have hf4 := o04.lst nf hf
    have hq4 := o04.lst nq hq
    have ch0 : ∀ z : Int, 0 ≤ cs a + z → ∀ i, i < n → 0 ≤ chg cs a z i := fun z hz i hi => by
      have := ok.c0 i hi
      unfold chg
      split <;> omega
    have chok : ∀ z : Int, 0 ≤ cs a + z → z < 2 ^ 201 → TOk L n fs (chg cs a z) := fun z hz hz2 => ⟨ok.l2, ok.l6, n0, n40, ok.ok, ch0 z hz, fun i hi => by
      have := ok.c0 i hi
      have := hcb i hi
      have h : (2 : Int) ^ 200 + 2 ^ 201 < 2 ^ 220 := by decide
      have h0 := ch0 z hz i hi
      have h2 : chg cs a z i < 2 ^ 220 := by unfold chg; split <;> omega
      omega⟩
    o_readsAll
    refine jnS (fun (σ' : L2.St) (H' : Hp) => ∃ x4, σ' = [some (.ref st), some (.ref t), some (.ref p), some (.ref q), some (.int (i : Int)), some (.int (a : Int)), some (.int m), x4] ∧ Stk H' st ∧ OffN st H H' ∧ LamX.Tabs (tabs Z) H') ?_ (fun N hN => br (fun hc => ?_) (fun hc => ?_))
    · rintro σ' H5 ⟨y4, rfl, s5, o5, T5⟩
      have ht5 := ht.off o5
      have hi5 := ht5.at
      obtain ⟨dx5, l5, cl5, j1, j2, j3⟩ := hi5
      have hp5 := o5.lst np hp
      have hf5 := o5.lst nf hf
      have hq5 := o5.lst nq hq
      have sb : ∀ i, i < n → (if i = a then cs a - m else cs i) = chg cs a (0 - m) i := fun i _ => by unfold chg; split <;> omega
      o_readsAll
      refine br (fun hc => ?_) (fun hc => ?_)
      · o_readsAll
        refine i_lam2 T5 fun H6 e6 T6 c6 hc6 => ?_
        o_readsAll
        rename_i d7 H7 fd7 e7 hd7
        have j17 := e7 _ _ (e6 _ _ j1 (fun _ z => nomatch z))
        refine c_refused (v := .int _) err_BadTable trivial hd7 (fun E1 Q1 h1 => ⟨e7 _ _ hc6, ?_⟩) fun H8 e8 => ?_
        · o_readsAll
          exact ⟨t, _, _, L, n, fs, ret, cs, rfl, (ht5.at.ext e6).same e7, n40, ok.c0, fun a' ea _ _ h => by
            have ea' : a' = a := by omega
            subst ea'
            omega, fun h => absurd ⟨by omega, by omega⟩ h, fun _ _ _ _ d H' fd e hd => h1 d H' e hd⟩
        · o_readsAll
          exact ⟨_, _, _, _, rfl, ((s5.ext e6).same e7).same e8, ((o5.ext e6).same e7).same e8, (T6.ext e7).ext e8⟩
      · o_readsAll
        refine g_ixL (.of hq5) (atI_nat (rng_at han)) ?_
        o_readsAll
        refine br (fun hc2 => ?_) (fun hc2 => ?_)
        · o_readsAll
          refine i_lam2 T5 fun H6 e6 T6 c6 hc6 => ?_
          o_readsAll
          rename_i d7 H7 fd7 e7 hd7
          have j17 := e7 _ _ (e6 _ _ j1 (fun _ z => nomatch z))
          refine c_refused (v := .int _) err_BadTable trivial hd7 (fun E1 Q1 h1 => ⟨e7 _ _ hc6, ?_⟩) fun H8 e8 => ?_
          · o_readsAll
            exact ⟨t, _, _, L, n, fs, ret, cs, rfl, (ht5.at.ext e6).same e7, n40, ok.c0, fun a' ea _ _ h => by
              have ea' : a' = a := by omega
              subst ea'
              omega, fun h => absurd ⟨by omega, by omega⟩ h, fun _ _ _ _ d H' fd e hd => h1 d H' e hd⟩
          · o_readsAll
            exact ⟨_, _, _, _, rfl, ((s5.ext e6).same e7).same e8, ((o5.ext e6).same e7).same e8, (T6.ext e7).ext e8⟩
        · o_readsAll
          rename_i nl H6 fnl e6 hnl N6 hN6
          refine g_ixLg (.of hnl) (atI_nat (rng_at han)) ?_
          o_readsAll
          refine g_setL hnl (by rw [rng_len]; exact ixN_at han) (rng_set n a _ _) ?_
          rw [rng_congr sb]
          have e5u : Same H5 (upd H6 nl (.lst (rng n (chg cs a (0 - m))))) := Eg.Same.put e6 fnl
          have hu : IL (upd H6 nl (.lst (rng n (chg cs a (0 - m))))) nl n (chg cs a (0 - m)) := upd_same
          generalize upd H6 nl (.lst (rng n (chg cs a (0 - m)))) = H7 at *
          have j17 := e5u _ _ j1
          o_readsAll
          refine ⟨t, _, _, L, n, fs, ret, cs, rfl, ht5.at.same e5u, n40, ok.c0, fun a' ea _ _ _ t' H8 ft e8 ht8 => ?_, fun h => absurd ⟨by omega, by omega⟩ h, fun a' ea _ h => by
            have ea' : a' = a := by omega
            subst ea'
            omega⟩
          have ea' : a' = a := by omega
          subst ea'
          o_readsAll
          refine c_ktell ht8 ⟨fl, e8 _ _ (e5u _ _ hp5), (show IL H8 fl n fs from e8 _ _ (e5u _ _ hf5))⟩ (hu.same e8) (chok (0 - m) (by omega) (by omega)) fun H9 e9 => ?_
          o_readsAll
          exact ⟨_, _, _, _, rfl, ((s5.same e5u).same e8).same e9, ((o5.same e5u).same e8).same e9, ((T5.ext e5u).ext e8).ext e9⟩
    · o_readsAll
      refine i_lam2 T4 fun H5 e5 T5 c5 hc5 => ?_
      o_readsAll
      rename_i d6 H6 fd6 e6 hd6
      have i16 := e6 _ _ (e5 _ _ i1 (fun _ z => nomatch z))
      refine c_refused (v := .int _) err_BadTable trivial hd6 (fun E1 Q1 h1 => ⟨e6 _ _ hc5, ?_⟩) fun H7 e7 => ?_
      · o_readsAll
        exact ⟨t, _, _, L, n, fs, ret, cs, rfl, (ht4.at.ext e5).same e6, n40, ok.c0, fun a' _ _ h => by omega, fun h => absurd ⟨by omega, by omega⟩ h, fun _ _ _ d H' fd e hd => h1 d H' e hd⟩
      · o_readsAll
        exact ⟨_, rfl, ((s4.ext e5).same e6).same e7, ((o04.ext e5).same e6).same e7, (T5.ext e6).ext e7⟩
    · o_readsAll
      rename_i nl H5 fnl e5 hnl N5 hN5
      refine g_ixLg (.of hnl) (atI_nat (rng_at han)) ?_
      o_readsAll
      refine g_setL hnl (by rw [rng_len]; exact ixN_at han) (rng_set n a _ _) ?_
      have e4u : Same H4 (upd H5 nl (.lst (rng n (chg cs a m)))) := Eg.Same.put e5 fnl
      have hu : IL (upd H5 nl (.lst (rng n (chg cs a m)))) nl n (chg cs a m) := upd_same
      rw [show (upd H5 nl (.lst (rng n fun i => if i = a then cs a + m else cs i))) = upd H5 nl (.lst (rng n (chg cs a m))) from rfl]
      generalize upd H5 nl (.lst (rng n (chg cs a m))) = H6 at *
      have i16 := e4u _ _ i1
      o_readsAll
      refine ⟨t, _, _, L, n, fs, ret, cs, rfl, ht4.at.same e4u, n40, ok.c0, fun a' ea _ _ t' H7 ft e7 ht7 => ?_, fun h => absurd ⟨by omega, by omega⟩ h, fun _ _ h => by omega⟩
      have ea' : a' = a := by omega
      subst ea'
      o_readsAll
      refine c_ktell ht7 ⟨fl, e7 _ _ (e4u _ _ hp4), (show IL H7 fl n fs from e7 _ _ (e4u _ _ hf4))⟩ (hu.same e7) (chok m (by omega) hm2) fun H8 e8 => ?_
      o_readsAll
      exact ⟨_, rfl, ((s4.same e4u).same e7).same e8, ((o04.same e4u).same e7).same e8, ((T4.ext e4u).ext e7).ext e8⟩
  · rintro σ' H1 ⟨x1, x2, x3, x4, rfl, s1, o1, T1⟩
    o_readsAll
    exact k H1 s1 o1 T1
theorem c_kmoves {st t p q fl : Addr} {L : Int} {n : Nat} {fs : Nat → Int} {ret : Bool} {cs : Nat → Int} {H : Hp} {Q : VK} {E : XK} (hs : Stk H st) (ht : TabS Z.a_Table Z.a_Ladder st H t L n fs ret cs) (hp : H p = some (.lst [.int L, .ref fl, .bl ret])) (hf : IL H fl n fs) (hq : IL H q n cs) (np : st ≠ p) (nf : st ≠ fl) (nq : st ≠ q) (ok : TOk L n fs cs) (hcb : ∀ i, i < n → cs i < 2 ^ 200) (hT : LamX.Tabs (tabs Z) H) (k : ∀ H', Stk H' st → OffN st H H' → LamX.Tabs (tabs Z) H' → Q (.bl true) H') : sp_kmoves Z [.ref st, .ref t, .ref p, .ref q] H Q E := ⟨st, t, p, q, fl, L, n, fs, ret, cs, rfl, hs, ht, hp, hf, hq, np, nf, nq, ok, hcb, hT, k⟩
end
end L25

namespace L25
set_option exponentiation.threshold 2000
open SX Ld
section
variable {P : Program} {w : World} {K : PySem.W.Frag} {mg : Str → Option Value} {base : Heap} {Z : Ad}
def sp_kmeet (Z : Ad) : Sp := fun vs H Q _ => ∃ (t p q r fl : Addr) (L : Int) (n : Nat) (fs : Nat → Int) (ret : Bool) (cs : Nat → Int) (rs : List Int), vs = [.ref t, .ref p, .ref q, .ref r] ∧ TabAt Z.a_Table Z.a_Ladder H t L n fs ret cs ∧ H p = some (.lst [.int L, .ref fl, .bl ret]) ∧ IL H fl n fs ∧ IL H q n cs ∧ H r = some (.lst (rs.map V.int)) ∧ TOk L n fs cs ∧ (∀ i, i < n → cs i < 2 ^ 200) ∧ (rs.length : Int) = L ∧ (∀ y ∈ rs, 0 ≤ y ∧ y < n) ∧ (∀ i, i < n → (rs.count (i : Int) : Nat) ≤ cs i) ∧ ∀ H', Same H H' → Q (.bl true) H'
theorem c_ebehind {p q rl : Addr} {at_ L : Int} {n : Nat} {fs cs : Nat → Int} {ret : Bool} {rs : List Int} {H : Hp} {Q : VK} {E : XK} (hp : PlA H p L n fs ret) (hq : IL H q n cs) (n40 : n ≤ 40) (ok : OkF fs) (hrl : H rl = some (.lst (rs.map V.int))) (hrs : rs.length ≤ 1000) (hm : mfault L n cs rs at_ = none) (k : ∀ tp ap H', H tp = none → H ap = none → Same H H' → H' tp = some (.tup [.ref ap, .bl (decide (fn rs at_.toNat + 1 = n))]) → IL H' ap n (bhN n fs ret at_ rs cs rs.length) → Q (.ref tp) H') : sp_ebehind [.ref p, .ref q, .ref rl, .int at_] H Q E := ⟨p, q, rl, at_, L, n, fs, cs, ret, rs, rfl, hp, hq, n40, ok, hrl, hrs, hm, k⟩
theorem d_law_k25_meetings (T : Txt K w mg Z) : Dfn P w K mg base 10 "_law_k25_meetings" ["table", "plain", "counts", "rungs"] (sp_kmeet Z) := by
  obtain ⟨f, fd, F, hm, hb⟩ := T.f_law_k25_meetings
  refine ⟨f, fd, F.ok sc_law_k25_meetings (fun vs H Q E h => by first | (obtain ⟨rfl, _⟩ := h; rfl) | (obtain ⟨_, rfl, _⟩ := h; rfl) | (obtain ⟨_, _, rfl, _⟩ := h; rfl) | (obtain ⟨_, _, _, rfl, _⟩ := h; rfl) | (obtain ⟨_, _, _, _, rfl, _⟩ := h; rfl) | (obtain ⟨_, _, _, _, _, rfl, _⟩ := h; rfl) | (obtain ⟨_, _, _, _, _, _, rfl, _⟩ := h; rfl) | (obtain ⟨_, _, _, _, _, _, _, rfl, _⟩ := h; rfl) | (obtain ⟨_, _, _, _, _, _, _, _, rfl, _⟩ := h; rfl) | (obtain ⟨_, _, _, _, _, _, _, _, _, rfl, _⟩ := h; rfl) | (obtain ⟨_, _, _, _, _, _, _, _, _, _, rfl, _⟩ := h; rfl) | (obtain ⟨_, _, _, _, _, _, _, _, _, _, _, rfl, _⟩ := h; rfl) | (obtain ⟨_, _, _, _, _, _, _, _, _, _, _, _, rfl, _⟩ := h; rfl) | (obtain ⟨_, _, _, _, _, _, _, _, _, _, _, _, _, rfl, _⟩ := h; rfl) | (obtain ⟨_, _, _, _, _, _, _, _, _, _, _, _, _, _, rfl, _⟩ := h; rfl) | (obtain ⟨_, _, _, _, _, _, _, _, _, _, _, _, _, _, _, rfl, _⟩ := h; rfl) | (obtain ⟨_, _, _, _, _, _, _, _, _, _, _, _, _, _, _, _, rfl, _⟩ := h; rfl)) (fun cdv A outer s H vs Q E hr h => ?_), hm, F.kp, hb⟩
  obtain ⟨t, p, q, r, fl, L, n, fs, ret, cs, rs, rfl, ht, hp, hf, hq, hr1, ok, hcb, hrl, hrm, hrc, k⟩ := h
  have lo2 := ok.l2
  have lo6 := ok.l6
  have n0 := ok.n0
  have n40 := ok.n40
  have hq' := hq
  unfold IL at hq'
  have D_law_e_loads := d_law_e_loads (P := P) (base := base) T
  have D_law_e_behind := d_law_e_behind (P := P) (base := base) T
  have D_Table_behind := d_Table_behind (P := P) (base := base) T
  have D_law_matches := d_law_matches (P := P) (base := base) T
  have D_Ladder_same_as := d_Ladder_same_as (P := P) (base := base) T
  have D_Table_counts := d_Table_counts (P := P) (base := base) T
  have D_Table_ladder := d_Table_ladder (P := P) (base := base) T
  have D_Table_load := d_Table_load (P := P) (base := base) T
  refine ⟨_, (pss_cons (ps_set (i := 4) sc_law_k25_meetings.nd rfl (.inl rfl) (pe_dfn D_law_e_loads (hr.mono (by decide)) (by rfl) (pa_cons (pv 1) pa_nil)))
      (pss_cons (ps_set (i := 5) sc_law_k25_meetings.nd rfl (.inl rfl) (pe_callB call_uLen (by rfl) T.b_len bt_len (pa_cons (pv 2) pa_nil)))
      (pss_cons (ps_for PassesOwn.never rfl (pi_range1 (by rfl) T.b_range (pa_cons (pe_ix ix_seq (pv 1) pe_int (fun _ _ => rfl)) pa_nil)) (pg_name (i := 6) sc_law_k25_meetings.nd rfl (.inl rfl))
        (pss_cons (ps_asg (pe_dfn D_law_e_behind (hr.mono (by decide)) (by rfl) (pa_cons (pv 1) (pa_cons (pv 2) (pa_cons (pv 3) (pa_cons (pv 6) pa_nil))))) (pg_tup (by rfl) (pgs_cons (pg_name (i := 7) sc_law_k25_meetings.nd rfl (.inl rfl)) (pgs_cons (pg_name (i := 8) sc_law_k25_meetings.nd rfl (.inl rfl)) pgs_nil))))
      (pss_cons (ps_set (i := 9) sc_law_k25_meetings.nd rfl (.inl rfl) (pe_callTy call_uList (by rfl) T.b_list bt_list (pa_cons (pv 3) pa_nil)))
      (pss_cons (ps_set (i := 10) sc_law_k25_meetings.nd rfl (.inl rfl) (pe_mthS D_Table_behind (hr.mono (by decide)) takes0 (pv 0) (pa_cons (pv 9) (pa_cons (pv 6) pa_nil))))
      (pss_cons (ps_if (PW.pt (pw_or (pt_not (pt_u (pe_callB call_isi (by rfl) T.b_isinstance bt_isinstance (pa_cons (pv 10) (pa_cons (pe_bltn (v := .ty "tuple") (by rfl) T.b_tuple bt_tuple rfl) pa_nil))))) (pw_or (pt_cmpR (op_uNe hr.units) (pe_callB call_uLen (by rfl) T.b_len bt_len (pa_cons (pv 10) pa_nil)) pe_int (nomark _)) (pw_or (pt_not (pt_u (pe_dfn (D_law_matches 2) (hr.mono (by decide)) (by rfl) (pa_cons (pe_ix ix_seq (pv 10) pe_int (fun _ _ => rfl)) (pa_cons (pv 8) pa_nil))))) (pw_or1 (pt_cmpR (op_uNe hr.units) (pv 9) (pv 3) (nomark _))))))) (pss_one (ps_ret pe_bl)) pss_nil)
      (pss_cons (ps_expr (pe_bm PySem.F.plainAttrs_list PySem.F.slot_list_append PySem.F.type_list_append mt_append (pv 9) (pa_cons pe_int pa_nil)))
      (pss_cons (ps_if (PW.pt (pw_or (pt_not (pt_u (pe_dfn (D_law_matches 2) (hr.mono (by decide)) (by rfl) (pa_cons (pe_mth0 D_Table_counts (hr.mono (by decide)) (pe_ix ix_seq (pv 10) pe_int (fun _ _ => rfl))) (pa_cons (pv 7) pa_nil))))) (pw_or1 (pt_cmpR op_uNotB (pe_mth D_Ladder_same_as (hr.mono (by decide)) (pe_mth0 D_Table_ladder (hr.mono (by decide)) (pe_ix ix_seq (pv 10) pe_int (fun _ _ => rfl))) (pa_cons (pe_mth0 D_Table_ladder (hr.mono (by decide)) (pv 0)) pa_nil)) pe_bl (nomark _))))) (pss_one (ps_ret pe_bl)) pss_nil)
      (pss_one (ps_if (pt_cmpR (op_uEq hr.units) (pe_callB (cr_min rfl) (by rfl) T.b_min bt_min (pa_cons (pv 3) pa_nil)) (pe_callB (cr_max rfl) (by rfl) T.b_max bt_max (pa_cons (pv 3) pa_nil)) (nomark _)) (pss_one (ps_for PassesOwn.never rfl (pi_range1 (by rfl) T.b_range (pa_cons (pv 5) pa_nil)) (pg_name (i := 11) sc_law_k25_meetings.nd rfl (.inl rfl))
        (pss_cons (ps_set (i := 12) sc_law_k25_meetings.nd rfl (.inl rfl) (pe_op op_uAdd (pe_op op_sub (pe_mthS D_Table_load (hr.mono (by decide)) takes0 (pe_ix ix_seq (pv 10) pe_int (fun _ _ => rfl)) (pa_cons (pv 11) pa_nil)) (pe_mthS D_Table_load (hr.mono (by decide)) takes0 (pv 0) (pa_cons (pv 11) pa_nil))) (pe_ifExp (pt_u (pv 8)) (pe_ix ix_seq (pe_ix ix_seq (pv 4) (pv 11) (fun _ _ => rfl)) (pv 5) (fun _ _ => rfl)) pe_int)))
      (pss_one (ps_if (pt_cmpR (op_uNe hr.units) (pv 12) (pe_ifExp (pt_cmpR (op_uEq hr.units) (pv 11) (pe_ix ix_seq (pv 3) pe_int (fun _ _ => rfl)) (nomark _)) pe_int pe_int) (nomark _)) (pss_one (ps_ret pe_bl)) pss_nil))))) pss_nil)))))))))
      (pss_one (ps_ret pe_bl))))), ?_⟩
  try dsimp only [cxOf, Cx.nox, Cx.wish]
  show (_ : TS) _ [some _, some _, some _, some _, none, none, none, none, none, none, none, none, none] _
  o_readsAll
  refine c_eloads (ret := ret) ⟨fl, hp, hf⟩ (by omega) lo6 n40 ok.ok fun lo qs H1 flo e1 hlo hql hR => ?_
  have hp1 := e1 _ _ hp
  have q1 := e1 _ _ hq'
  o_readsAll
  have hmf : ∀ at_ : Int, 0 ≤ at_ → at_ < L → mfault L n cs rs at_ = none := fun at_ a0 aL => by
    unfold mfault
    rw [if_neg (fun z => z.elim (fun z => z hrl) fun z => z.elim (fun z => z ⟨a0, aL⟩) fun z => z hrm)]
    rw [fb_none (fun i hi h => by have := hrc i hi; unfold over at h; omega)]
    rfl
  obtain ⟨Ln, hLn⟩ : ∃ Ln : Nat, L = (Ln : Int) := ⟨L.toNat, by omega⟩
  rw [hLn, Int.toNat_natCast, rng_len]
  have hlo1 := hlo
  refine f_rng (fun i σ' H' => ∃ (x6 x7 x8 x9 x10 x11 x12 : Option V), σ' = [some (.ref t), some (.ref p), some (.ref q), some (.ref r), some (.ref lo), some (.int (n : Int)), x6, x7, x8, x9, x10, x11, x12] ∧ Same H1 H') ⟨_, _, _, _, _, _, _, rfl, Same.refl _⟩ ?_ ?_
  · rintro at_ σ' H2 hat ⟨x6, x7, x8, x9, x10, x11, x12, rfl, e2⟩
    rw [Int.zero_add]
    have e02 := e1.trans e2
    have hm := hmf (at_ : Int) (by omega) (by omega)
    o_readsAll
    refine c_ebehind (ret := ret) ⟨fl, e02 _ _ hp, (show IL H2 fl n fs from e02 _ _ hf)⟩ (hq.same e02) n40 ok.ok (e02 _ _ hr1) (by omega) hm fun tp ap H3 ftp fap e3 htp hap => ?_
    rw [Int.toNat_natCast] at htp
    have e03 := e02.trans e3
    have r3 := e03 _ _ hr1
    have hi3 := ht.same e03
    obtain ⟨dx, l, cl, i1, i2, i3⟩ := hi3
    o_readsAll
    rename_i hn H4 fhn e4 hhn N4 hN4
    have e04 := e03.trans e4
    have htp4 := e4 _ _ htp
    have i14 := e4 _ _ i1
    refine ⟨t, hn, (at_ : Int), L, n, fs, ret, cs, rs, rfl, ht.same e04, n40, ok.ok, hhn, by omega, fun _ tq t' H5 ftq ft' e5 htq ht5 ⟨dxa, la, dxb, cla, clb, g1, g2, g3, g4⟩ => ?_, fun x hx => by rw [hm] at hx; cases hx⟩
    rw [Int.toNat_natCast] at htq
    have e05 := e04.trans e5
    have hhn5 := e5 _ _ hhn
    have r5 := e05 _ _ hr1
    have cT : TOk L n fs (bhN n fs ret (at_ : Int) rs cs rs.length) := ⟨lo2, lo6, n0, n40, ok.ok, bhN_nn hm (Nat.le_refl _), fun j hj => by
      have h1 := bhN_nn (fs := fs) (ret := ret) hm (Nat.le_refl _) j hj
      have h2 := bhN_le n fs ret (at_ : Int) rs cs j rs.length
      have h3 := hcb j hj
      have h4 : (2 : Int) ^ 200 + 6 < 2 ^ 220 := by decide
      have h5 : bhN n fs ret (at_ : Int) rs cs rs.length j < 2 ^ 220 := by omega
      omega⟩
    have hap5 := (e4.trans e5) _ _ (show H3 ap = some (.lst (rng n (bhN n fs ret (at_ : Int) rs cs rs.length))) from hap)
    o_readsAll
    refine brF (by rfl) ?_
    o_readsAll
    refine c_mat (alk_flat (v := .bl _) trivial) fun H6 e6 => ?_
    have e06 := e05.trans e6
    have hhn6 := e6 _ _ hhn5
    have r6 := e06 _ _ hr1
    have htq6 := e6 _ _ htq
    o_readsAll
    refine g_neIL (l := rs) (m := rs) (.of hhn6) (.of r6) ?_
    rw [decide_eq_true rfl]
    have hsz : (rs.map V.int).length < sizeLine := by rw [List.length_map, sizeLine_eq]; omega
    o_readsAll
    have e56 := e5.trans e6
    have e4a := Eg.Same.put (o := .lst (rs.map V.int ++ [V.int 0])) (e4.trans e56) fhn
    have gl : la = l := by
      rw [e4 _ _ i1] at g1
      cases g1
      rfl
    subst gl
    have nt' : t' ≠ hn := (ne_of_none hhn ft').symm
    have ncb : clb ≠ hn := (ne_of_none hhn g2).symm
    have ntq : tq ≠ hn := (ne_of_none hhn ftq).symm
    have j1 : upd H6 hn (.lst (rs.map V.int ++ [V.int 0])) t' = some (.ins Z.a_Table dxb [("ladder_kept", .ref la), ("counts_list", .ref clb)]) := by rw [upd_ne nt']; exact e6 _ _ g3
    have j2 : IL (upd H6 hn (.lst (rs.map V.int ++ [V.int 0]))) clb n (bhN n fs ret (at_ : Int) rs cs rs.length) := by
      unfold IL
      rw [upd_ne ncb]
      exact e6 _ _ g4
    have j3 : upd H6 hn (.lst (rs.map V.int ++ [V.int 0])) tq = some (.tup [.ref t', .bl (decide (fn rs at_ + 1 = n))]) := by rw [upd_ne ntq]; exact htq6
    generalize upd H6 hn (.lst (rs.map V.int ++ [V.int 0])) = H7 at *
    have e07 := e03.trans e4a
    have ht7 : TabAt Z.a_Table Z.a_Ladder H7 t' L n fs ret (bhN n fs ret (at_ : Int) rs cs rs.length) := ⟨dxb, la, clb, j1, j2, i3.same e4a⟩
    have hap7 := hap.same e4a
    have hap7' := hap7
    unfold IL at hap7'
    clear hhn hhn5 hhn6 htq htq6 ht5 g3 g4 hap5 r5 r6 htp4 e5 e6 e56 e04 e05 e06 i14
    o_readsAll
    refine c_tcnt ht7 fun cq H8 fcq e8 hcq => ?_
    have e08 := e07.trans e8
    have j18 := e8 _ _ j1
    have j38 := e8 _ _ j3
    o_readsAll
    refine c_mat (alk_il (m := 0) hcq (hap7.same e8) (by omega)) fun H9 e9 => ?_
    have e09 := e08.trans e9
    have j19 := e9 _ _ j18
    have j39 := e9 _ _ j38
    have i19 := (e4a.trans (e8.trans e9)) _ _ i1
    have ht9 := ht.same e09
    have ht79 := (ht7.same e8).same e9
    o_readsAll
    refine c_tlad ht79 fun l1 hl1 => ?_
    have hl1' := hl1
    obtain ⟨ldx, lfl, llt, lhh, lwl, lps, a1, _, _, _, _, _, _⟩ := hl1'
    o_readsAll
    refine c_tlad ht9 fun l2 hl2 => ?_
    o_readsAll
    refine c_lsame hl1 hl2 fun Ha ea => ?_
    have e0a := e09.trans ea
    have j1a := ea _ _ j19
    have j3a := ea _ _ j39
    have i1a := ea _ _ i19
    have ra := e0a _ _ hr1
    o_readsAll
    refine brF (by rfl) ?_
    o_readsAll
    have hrs0 : 0 < rs.length := by omega
    refine g_minI (.of ra) hrs0 fun m hm1 hm2 => ?_
    o_readsAll
    refine g_maxI (.of ra) hrs0 fun M hM1 hM2 => ?_
    have e1a := e2.trans (e3.trans (e4a.trans (e8.trans (e9.trans ea))))
    o_readsAll
    refine br (fun hc => ?_) (fun hc => ?_)
    · have hall : ∀ y ∈ rs, y = m := fun y hy => by
        have := hm2 y hy
        have := hM2 y hy
        omega
      obtain ⟨mr0, mrn⟩ := hrm m hm1
      obtain ⟨ρ, rfl⟩ : ∃ ρ : Nat, m = (ρ : Int) := ⟨m.toNat, by omega⟩
      have hρ : ρ < n := by omega
      have ht7a := (ht79.same ea)
      have hta := ht9.same ea
      have hloa := e1a _ _ hlo
      have hRa := hR.same e1a
      have hfr : fn rs at_ = (ρ : Int) := by
        have e := List.getElem?_eq_getElem (l := rs) (i := at_) (by omega)
        rw [fn_at e]
        exact hall _ (List.getElem_mem _)
      have hr0 : rs[0]? = some (ρ : Int) := by
        have e := List.getElem?_eq_getElem (l := rs) (i := 0) hrs0
        rw [e, hall _ (List.getElem_mem _)]
      o_readsAll
      rw [Int.toNat_natCast]
      refine f_rng (fun a σ' H' => ∃ (x11 x12 : Option V), σ' = [some (.ref t), some (.ref p), some (.ref q), some (.ref r), some (.ref lo), some (.int (n : Int)), some (.int (at_ : Int)), some (.ref ap), some (.bl (decide (fn rs at_ + 1 = n))), some (.ref hn), some (.ref tq), x11, x12] ∧ Same Ha H') ⟨_, _, rfl, Same.refl _⟩ ?_ ?_
      · rintro a σ' Hb ha ⟨x11, x12, rfl, eb⟩
        rw [Int.zero_add]
        have j1b := eb _ _ j1a
        have j3b := eb _ _ j3a
        have i1b := eb _ _ i1a
        o_readsAll
        refine c_tload (ht7a.same eb) cT ha fun Hc ec => ?_
        have ebc := eb.trans ec
        have i1c := ebc _ _ i1a
        o_readsAll
        refine c_tload (hta.same ebc) ok ha fun Hd ed => ?_
        have ebd := ebc.trans ed
        have lod := ebd _ _ hloa
        have rd := ebd _ _ ra
        have hqa := List.getElem?_eq_getElem (l := qs) (i := a) (by omega)
        have hra := (hRa a _ hqa).same ebd
        generalize qs[a]'(by omega) = raa at hqa hra
        have hmt := meet_all (ret := ret) (cs := cs) ok.ok hρ a at_ hall hrl (by omega)
        have hcr : decide (fn rs at_ + 1 = (n : Int)) = decide (ρ + 1 = n) := by rw [hfr, decide_eq_decide]; omega
        o_readsAll
        refine jnE (fun x H' => x = .int (if ρ + 1 = n then ld L fs a n else 0) ∧ H' = Hd) ?_ (fun Q' hQ => br (fun h => ?_) (fun h => ?_))
        · rintro x H' ⟨rfl, rfl⟩
          o_readsAll
          refine g_ixL (v := .int (ρ : Int)) (.of rd) (atI_nat (j := 0) (by rw [List.getElem?_map, hr0]; rfl)) ?_
          o_readsAll
          refine br (fun h => ?_) (fun h => ?_)
          · o_readsAll
            refine brn (fun hb => absurd (hmt.trans (if_pos (by omega))) hb) (fun hb => ?_)
            o_readsAll
            exact ⟨_, _, rfl, ebd⟩
          · o_readsAll
            refine brn (fun hb => absurd (hmt.trans (if_neg (by omega))) hb) (fun hb => ?_)
            o_readsAll
            exact ⟨_, _, rfl, ebd⟩
        · o_readsAll
          refine g_ixL (v := .ref raa) (.of lod) (atI_nat (by rw [List.getElem?_map, hqa]; rfl)) ?_
          o_readsAll
          refine g_ixL hra.sq (atI_nat (rng_at (by omega))) ?_
          exact hQ _ _ ⟨by rw [if_pos (by omega)], rfl⟩
        · o_readsAll
          exact hQ _ _ ⟨by rw [if_neg (by omega)], rfl⟩
      · rintro σ' Hb ⟨x11, x12, rfl, eb⟩
        exact ⟨_, _, _, _, _, _, _, rfl, e1a.trans eb⟩
    · o_readsAll
      exact ⟨_, _, _, _, _, _, _, rfl, e1a⟩
  · rintro σ' H2 ⟨x6, x7, x8, x9, x10, x11, x12, rfl, e2⟩
    o_readsAll
    exact k H2 (e1.trans e2)
theorem c_kmeet {t p q r fl : Addr} {L : Int} {n : Nat} {fs : Nat → Int} {ret : Bool} {cs : Nat → Int} {rs : List Int} {H : Hp} {Q : VK} {E : XK} (ht : TabAt Z.a_Table Z.a_Ladder H t L n fs ret cs) (hp : H p = some (.lst [.int L, .ref fl, .bl ret])) (hf : IL H fl n fs) (hq : IL H q n cs) (hr : H r = some (.lst (rs.map V.int))) (ok : TOk L n fs cs) (hcb : ∀ i, i < n → cs i < 2 ^ 200) (hrl : (rs.length : Int) = L) (hrm : ∀ y ∈ rs, 0 ≤ y ∧ y < n) (hrc : ∀ i, i < n → (rs.count (i : Int) : Nat) ≤ cs i) (k : ∀ H', Same H H' → Q (.bl true) H') : sp_kmeet Z [.ref t, .ref p, .ref q, .ref r] H Q E := ⟨t, p, q, r, fl, L, n, fs, ret, cs, rs, rfl, ht, hp, hf, hq, hr, ok, hcb, hrl, hrm, hrc, k⟩
end
end L25

namespace L25
set_option exponentiation.threshold 2000
open SX Ld
section
variable {P : Program} {w : World} {K : PySem.W.Frag} {mg : Str → Option Value} {base : Heap} {Z : Ad}
/-- nothing that stays is here -/
def Frn (H : Hp) (b : Addr) : Prop := ∀ u, H b = some u → ∃ ps, u = .tbl ps
theorem OffN.fr {s b : Addr} {H H' : Hp} (o : OffN s H H') (n : s ≠ b) (h : H' b = none) : Frn H b := fun u hu => by
  cases u <;> first | exact ⟨_, rfl⟩ | (have e := o b _ n.symm hu (fun _ z => nomatch z); rw [h] at e; cases e)
theorem OffN.putF {s b : Addr} {H H' : Hp} {x : HO} (o : OffN s H H') (f : Frn H b) : OffN s H (upd H' b x) := fun c u hc h n => by
  by_cases e : c = b
  · subst e
    obtain ⟨ps, hp⟩ := f u h
    exact absurd hp (n ps)
  · rw [upd_ne e]
    exact o c u hc h n
theorem c_kfault2 {p fl q rl : Addr} {at_ L : Int} {n : Nat} {cs : Nat → Int} {ret : Bool} {rs : List Int} {H : Hp} {Q : VK} {E : XK} (hp : H p = some (.lst [.int L, .ref fl, .bl ret])) (hq : IL H q n cs) (n40 : n ≤ 40) (hrl : H rl = some (.lst (rs.map V.int))) (hrs : rs.length ≤ 1000) (k1 : mfault L n cs rs at_ = none → Q .non H) (k2 : ∀ r, mfault L n cs rs at_ = some r → Q (.int r) H) : sp_kfault [.ref p, .ref q, .ref rl, .int at_] H Q E := by
  refine c_kfault hp hq n40 hrl hrs ?_
  cases hm : mfault L n cs rs at_ with
  | none => exact k1 hm
  | some r => exact k2 r hm
theorem set_map (l : List Int) (j : Nat) (v : Int) : (l.map V.int).set j (.int v) = (l.set j v).map V.int := by
  rw [List.map_set]
theorem tabs_put {T : List (Addr × Str)} {H : Hp} {b : Addr} {xs : List V} {o : HO} (t : LamX.Tabs T H) (hb : H b = some (.lst xs)) : LamX.Tabs T (upd H b o) := tabs_offL t hb ((off_refl _ _).upd)
def sp_kbent (Z : Ad) : Sp := fun vs H Q _ => ∃ (st t p q r fl : Addr) (L : Int) (n : Nat) (fs : Nat → Int) (ret : Bool) (cs : Nat → Int) (rs : List Int), vs = [.ref st, .ref t, .ref p, .ref q, .ref r] ∧ Stk H st ∧ TabS Z.a_Table Z.a_Ladder st H t L n fs ret cs ∧ H p = some (.lst [.int L, .ref fl, .bl ret]) ∧ IL H q n cs ∧ H r = some (.lst (rs.map V.int)) ∧ st ≠ p ∧ st ≠ q ∧ st ≠ r ∧ TOk L n fs cs ∧ rs.length ≤ 6 ∧ LamX.Tabs (tabs Z) H ∧ ∀ H', Stk H' st → OffN st H H' → LamX.Tabs (tabs Z) H' → Q (.bl true) H'
theorem d_law_k25_bent (T : Txt K w mg Z) (B : Bas Z mg base) : Dfn P w K mg base 12 "_law_k25_bent" ["stock", "table", "plain", "counts", "rungs"] (sp_kbent Z) := by
  obtain ⟨f, fd, F, hc, hm, hb⟩ := T.f_law_k25_bent
  refine ⟨f, fd, okC F hc sc_law_k25_bent (fun vs H Q E h => by first | (obtain ⟨rfl, _⟩ := h; rfl) | (obtain ⟨_, rfl, _⟩ := h; rfl) | (obtain ⟨_, _, rfl, _⟩ := h; rfl) | (obtain ⟨_, _, _, rfl, _⟩ := h; rfl) | (obtain ⟨_, _, _, _, rfl, _⟩ := h; rfl) | (obtain ⟨_, _, _, _, _, rfl, _⟩ := h; rfl) | (obtain ⟨_, _, _, _, _, _, rfl, _⟩ := h; rfl) | (obtain ⟨_, _, _, _, _, _, _, rfl, _⟩ := h; rfl) | (obtain ⟨_, _, _, _, _, _, _, _, rfl, _⟩ := h; rfl) | (obtain ⟨_, _, _, _, _, _, _, _, _, rfl, _⟩ := h; rfl) | (obtain ⟨_, _, _, _, _, _, _, _, _, _, rfl, _⟩ := h; rfl) | (obtain ⟨_, _, _, _, _, _, _, _, _, _, _, rfl, _⟩ := h; rfl) | (obtain ⟨_, _, _, _, _, _, _, _, _, _, _, _, rfl, _⟩ := h; rfl) | (obtain ⟨_, _, _, _, _, _, _, _, _, _, _, _, _, rfl, _⟩ := h; rfl) | (obtain ⟨_, _, _, _, _, _, _, _, _, _, _, _, _, _, rfl, _⟩ := h; rfl) | (obtain ⟨_, _, _, _, _, _, _, _, _, _, _, _, _, _, _, rfl, _⟩ := h; rfl) | (obtain ⟨_, _, _, _, _, _, _, _, _, _, _, _, _, _, _, _, rfl, _⟩ := h; rfl)) (fun A outer s H vs Q E hr h => ?_), hm, F.kp, hb⟩
  obtain ⟨st, t, p, q, r, fl, L, n, fs, ret, cs, rs, rfl, hs, ht, hp, hq, hr1, np, nq, nr, ok, hrs, hT, k⟩ := h
  have lo2 := ok.l2
  have lo6 := ok.l6
  have n0 := ok.n0
  have n40 := ok.n40
  have hq' := hq
  unfold IL at hq'
  have D_law_draw := d_law_draw (P := P) (base := base) T
  have D_law_k25_fault := d_law_k25_fault (P := P) (base := base) T
  have D_Table_behind := d_Table_behind (P := P) (base := base) T
  have D_law_e_let := d_law_e_let (P := P) (base := base) T
  have D_law_e_refused := d_law_e_refused (P := P) (base := base) T
  refine ⟨_, (pss_cons (ps_for PassesOwn.never rfl (pi_range1 (by rfl) T.b_range (pa_cons pe_int pa_nil)) (pg_name (i := 5) sc_law_k25_bent.nd rfl (.inl rfl))
        (pss_cons (ps_set (i := 6) sc_law_k25_bent.nd rfl (.inr rfl) (pe_callTy call_uList (by rfl) T.b_list bt_list (pa_cons (pv 4) pa_nil)))
      (pss_cons (ps_set (i := 7) sc_law_k25_bent.nd rfl (.inr rfl) (pe_dfn D_law_draw (hr.mono (by decide)) (by rfl) (pa_cons (pv 0) (pa_cons (pe_ix ix_seq (pv 2) pe_int (fun _ _ => rfl)) pa_nil))))
      (pss_cons (ps_for PassesOwn.never rfl (pi_range1 (by rfl) T.b_range (pa_cons (pe_op op_uAdd pe_int (pe_dfn D_law_draw (hr.mono (by decide)) (by rfl) (pa_cons (pv 0) (pa_cons pe_int pa_nil)))) pa_nil)) (pg_name (i := 8) sc_law_k25_bent.nd rfl (.inl rfl))
        (pss_cons (ps_set (i := 9) sc_law_k25_bent.nd rfl (.inl rfl) (pe_dfn D_law_draw (hr.mono (by decide)) (by rfl) (pa_cons (pv 0) (pa_cons pe_int pa_nil))))
      (pss_one (ps_if (pt_cmpR (op_uEq hr.units) (pv 9) pe_int (nomark _)) (pss_one (ps_expr (pe_bm PySem.F.plainAttrs_list PySem.F.slot_list_append PySem.F.type_list_append mt_append (pv 6) (pa_cons (pe_dfn D_law_draw (hr.mono (by decide)) (by rfl) (pa_cons (pv 0) (pa_cons (pe_callB call_uLen (by rfl) T.b_len bt_len (pa_cons (pv 3) pa_nil)) pa_nil))) pa_nil)))) (pss_one (ps_if (pt_cmpR (op_uEq hr.units) (pv 9) pe_int (nomark _)) (pss_one (ps_set (i := 6) sc_law_k25_bent.nd rfl (.inr rfl) (pe_slice sl_u (pv 6) (po_some pe_int) po_none))) (pss_one (ps_if (pt_cmpR (op_uEq hr.units) (pv 9) pe_int (nomark _)) (pss_one (ps_set (i := 7) sc_law_k25_bent.nd rfl (.inr rfl) (pe_ix ix_seq (pe_lst (pa_cons (pe_op op_sub pe_int pe_int) (pa_cons (pe_ix ix_seq (pv 2) pe_int (fun _ _ => rfl)) pa_nil))) (pe_dfn D_law_draw (hr.mono (by decide)) (by rfl) (pa_cons (pv 0) (pa_cons pe_int pa_nil))) (fun _ _ => rfl)))) (pss_one (ps_if (pt_cmpR op_gt (pv 9) pe_int (nomark _)) (pss_one (ps_set (i := 6) sc_law_k25_bent.nd rfl (.inr rfl) (pe_op op_rep (pe_lst (pa_cons (pe_dfn D_law_draw (hr.mono (by decide)) (by rfl) (pa_cons (pv 0) (pa_cons (pe_callB call_uLen (by rfl) T.b_len bt_len (pa_cons (pv 3) pa_nil)) pa_nil))) pa_nil)) (pe_callB call_uLen (by rfl) T.b_len bt_len (pa_cons (pv 6) pa_nil))))) (pss_one (ps_if (pt_cmpR (op_uNe hr.units) (pv 6) (pe_lst pa_nil) (nomark _)) (pss_cons (ps_set (i := 10) sc_law_k25_bent.nd rfl (.inl rfl) (pe_dfn D_law_draw (hr.mono (by decide)) (by rfl) (pa_cons (pv 0) (pa_cons (pe_callB call_uLen (by rfl) T.b_len bt_len (pa_cons (pv 6) pa_nil)) pa_nil))))
      (pss_one (ps_asg (pe_ix ix_seq (pe_lst (pa_cons (pe_op op_sub pe_int pe_int) (pa_cons (pe_callB call_uLen (by rfl) T.b_len bt_len (pa_cons (pv 3) pa_nil)) (pa_cons (pe_dfn D_law_draw (hr.mono (by decide)) (by rfl) (pa_cons (pv 0) (pa_cons (pe_callB call_uLen (by rfl) T.b_len bt_len (pa_cons (pv 3) pa_nil)) pa_nil))) pa_nil)))) (pe_op op_sub (pv 9) pe_int) (fun _ _ => rfl)) (pg_sub (pv 6) (pv 10) set_list)))) pss_nil))))))))))))
      (pss_cons (ps_set (i := 11) sc_law_k25_bent.nd rfl (.inl rfl) (pe_dfn D_law_k25_fault (hr.mono (by decide)) (by rfl) (pa_cons (pv 2) (pa_cons (pv 3) (pa_cons (pv 6) (pa_cons (pv 7) pa_nil))))))
      (pss_lam (T := tabs Z) (i := 12) B.b_law_k25_bent rfl (tabs_law_k25_bent Z) (tabu_law_k25_bent B) (LamX.lamS_by (sc := defScope st_law_k25_bent) (by decide +kernel)) rfl sc_law_k25_bent.nd rfl (.inl rfl) rfl rfl (fun _ _ _ _ => (pss_one (ps_if (pt_not (pt_ifExp (pt_cmpR op_uIsN (pv 11) pe_non (nomark _)) (pt_uK (K := K) rfl (pe_fwdP (i := 12) D_law_e_let (hr.mono (by decide)) (by rfl) (LamX.lamS_by (sc := defScope st_law_k25_bent) (by decide +kernel)) (fun _ _ _ _ _ => rfl) (fun A outer s H E f c' hr => (pe_mthS D_Table_behind (hr.mono (by decide)) (takes_of rfl rfl rfl rfl) (pv 1) (pa_cons (pv 6) (pa_cons (pv 7) pa_nil)))) rfl rfl pa_nil)) (pt_uK (K := K) rfl (pe_fwdP (i := 12) D_law_e_refused (hr.mono (by decide)) (by rfl) (LamX.lamS_by (sc := defScope st_law_k25_bent) (by decide +kernel)) (fun _ _ _ _ _ => rfl) (fun A outer s H E f c' hr => (pe_mthS D_Table_behind (hr.mono (by decide)) (takes_of rfl rfl rfl rfl) (pv 1) (pa_cons (pv 6) (pa_cons (pv 7) pa_nil)))) rfl rfl (pa_cons (pe_tup (pa_cons pe_str (pa_cons (pv 11) pa_nil))) pa_nil))))) (pss_one (ps_ret pe_bl)) pss_nil)))))))))
      (pss_one (ps_ret pe_bl))), ?_⟩
  try dsimp only [cxOf, Cx.nox, Cx.wish]
  show (_ : TS) _ [some _, some _, some _, some _, some _, none, none, none, none, none, none, none, none] _
  o_readsAll
  refine f_rng (fun i σ' H' => ∃ (x5 x6 x7 x8 x9 x10 x11 x12 : Option V), σ' = [some (.ref st), some (.ref t), some (.ref p), some (.ref q), some (.ref r), x5, x6, x7, x8, x9, x10, x11, x12] ∧ Stk H' st ∧ OffN st H H' ∧ LamX.Tabs (tabs Z) H') ⟨_, _, _, _, _, _, _, _, rfl, hs, OffN.refl _ _, hT⟩ ?_ ?_
  · rintro i σ' H1 hi ⟨x5, x6, x7, x8, x9, x10, x11, x12, rfl, s1, o1, T1⟩
    rw [Int.zero_add]
    have hr11 := o1.lst nr hr1
    have hp1 := o1.lst np hp
    o_readsAll
    rename_i b0 H2 fb0 e2 hb0 N0 hN0
    have s2 := s1.same e2
    have o2 := o1.same e2
    have T2 := T1.ext e2
    have nb0 := s1.ne fb0
    have F0 := o1.fr nb0 fb0
    refine c_draw (by omega) (by omega) s2 fun av H3 a0 a1 s3 o3 => ?_
    have hb3 := o3 _ _ nb0.symm hb0
    have o03 := o2.off o3
    have T3 := tabs_off T2 s2 o3
    o_readsAll
    refine c_draw (by decide) (by decide) s3 fun wv H4 w0 w1 s4 o4 => ?_
    have hb4 := o4 _ _ nb0.symm hb3
    have o04 := o03.off o4
    have T4 := tabs_off T3 s3 o4
    obtain ⟨wn, hwn⟩ : ∃ wn : Nat, 1 + wv = (wn : Int) := ⟨(1 + wv).toNat, by omega⟩
    o_readsAll
    rw [hwn, Int.toNat_natCast]
    refine f_rng (fun w σ' H' => ∃ (b : Addr) (bs : List Int) (av : Int) (x8 x9 x10 : Option V), σ' = [some (.ref st), some (.ref t), some (.ref p), some (.ref q), some (.ref r), some (.int (i : Int)), some (.ref b), some (.int av), x8, x9, x10, x11, x12] ∧ Stk H' st ∧ OffN st H H' ∧ LamX.Tabs (tabs Z) H' ∧ st ≠ b ∧ Frn H b ∧ H' b = some (.lst (bs.map V.int)) ∧ bs.length ≤ 6 + w) ⟨b0, rs, av, _, _, _, rfl, s4, o04, T4, nb0, F0, hb4, by omega⟩ ?_ ?_
    · rintro w σ' H5 hw ⟨b, bs, av, x8, x9, x10, rfl, s5, o5, T5, nb, Fb, hb5, hbl⟩
      rw [Int.zero_add]
      have hq5 := o5.lst nq hq'
      have hp5 := o5.lst np hp
      have hsz : (bs.map V.int).length < sizeLine := by rw [List.length_map, sizeLine_eq]; omega
      o_readsAll
      refine c_draw (by decide) (by decide) s5 fun kd H6 k0 k1 s6 o6 => ?_
      have hb6 := o6 _ _ nb.symm hb5
      have o06 := o5.off o6
      have T6 := tabs_off T5 s5 o6
      have hq6 := o06.lst nq hq'
      have hp6 := o06.lst np hp
      o_readsAll
      refine br (fun hc => ?_) (fun hc => ?_)
      · o_readsAll
        rw [rng_len]
        refine c_draw (by omega) (by omega) s6 fun r7 H7 r70 r71 s7 o7 => ?_
        have hb7 := o7 _ _ nb.symm hb6
        o_readsAll
        exact ⟨b, bs ++ [r7], av, _, _, _, rfl, s7.put nb, (o06.off o7).putF Fb, tabs_put (tabs_off T6 s6 o7) hb7, nb, Fb, by rw [upd_same, List.map_append]; rfl, by rw [List.length_append]; show _ + 1 ≤ _; omega⟩
      · o_readsAll
        refine br (fun hc => ?_) (fun hc => ?_)
        · o_readsAll
          rename_i sl H7 fsl e7 hsl
          obtain ⟨ms, em, lm⟩ := cut5 bs (some 1) none
          rw [em] at hsl
          exact ⟨sl, ms, av, _, _, _, rfl, s6.same e7, o06.same e7, T6.ext e7, s6.ne fsl, o06.fr (s6.ne fsl) fsl, hsl, by omega⟩
        · o_readsAll
          refine br (fun hc => ?_) (fun hc => ?_)
          · o_readsAll
            rename_i tl H7 ftl e7 htl
            have s7 := s6.same e7
            have o07 := o06.same e7
            have hb7 := e7 _ _ hb6
            refine c_draw (by decide) (by decide) s7 fun r8 H8 r80 r81 s8 o8 => ?_
            obtain ⟨j, rfl⟩ : ∃ j : Nat, r8 = (j : Int) := ⟨r8.toNat, by omega⟩
            have htl8 := o8 _ _ (s6.ne ftl).symm htl
            have hb8 := o8 _ _ nb.symm hb7
            obtain ⟨v, hv⟩ : ∃ v : Int, [V.int (0 - 1), V.int L][j]? = some (V.int v) := by
              match j with
              | 0 => exact ⟨_, rfl⟩
              | 1 => exact ⟨_, rfl⟩
              | j + 2 => omega
            refine g_ixL (v := .int v) (.of htl8) (atI_nat hv) ?_
            exact ⟨b, bs, v, _, _, _, rfl, s8, o07.off o8, tabs_off (T6.ext e7) s7 o8, nb, Fb, hb8, by omega⟩
          · o_readsAll
            refine br (fun hc => ?_) (fun hc => ?_)
            · o_readsAll
              rw [rng_len]
              refine c_draw (by omega) (by omega) s6 fun r7 H7 r70 r71 s7 o7 => ?_
              have hb7 := o7 _ _ nb.symm hb6
              have o07 := o06.off o7
              have T7 := tabs_off T6 s6 o7
              o_readsAll
              rename_i one H8 fone e8 hone
              have s8 := s7.same e8
              rw [List.length_map]
              refine g_rep hone (by omega) (by rw [sizeLine_eq]; simp; omega) fun rr H9 frr e9 hrr => ?_
              rw [List.flatten_replicate_singleton, ← List.map_replicate] at hrr
              have o08 := o07.same e8
              exact ⟨rr, List.replicate bs.length r7, av, _, _, _, rfl, s8.same e9, o08.same e9, (T7.ext e8).ext e9, s8.ne frr, o08.fr (s8.ne frr) frr, hrr, by rw [List.length_replicate]; omega⟩
            · o_readsAll
              rename_i nl H7 fnl e7 hnl
              have hb7 := e7 _ _ hb6
              refine g_neIL (l := bs) (m := []) (.of hb7) (.of hnl) ?_
              have s7 := s6.same e7
              have T7 := T6.ext e7
              have o07 := o06.same e7
              have hq7 := e7 _ _ hq6
              o_readsAll
              refine brn (fun hne => ?_) (fun hne => ?_)
              · o_readsAll
                rw [List.length_map]
                have hbl0 : 0 < bs.length := List.length_pos_iff.mpr hne
                refine c_draw (by omega) (by omega) s7 fun r8 H8 r80 r81 s8 o8 => ?_
                obtain ⟨wh, rfl⟩ : ∃ wh : Nat, r8 = (wh : Int) := ⟨r8.toNat, by omega⟩
                have hb8 := o8 _ _ nb.symm hb7
                have hq8 := (o07.off o8).lst nq hq'
                have T8 := tabs_off T7 s7 o8
                o_readsAll
                rw [rng_len]
                refine c_draw (by omega) (by omega) s8 fun r9 H9 r90 r91 s9 o9 => ?_
                have hb9 := o9 _ _ nb.symm hb8
                have o09 := (o07.off o8).off o9
                have T9 := tabs_off T8 s8 o9
                o_readsAll
                rename_i tl Ha ftl ea htl
                have hba := ea _ _ hb9
                obtain ⟨j, hj⟩ : ∃ j : Nat, kd - 3 = (j : Int) := ⟨(kd - 3).toNat, by omega⟩
                obtain ⟨v, hv⟩ : ∃ v : Int, [V.int (0 - 1), V.int (n : Int), V.int r9][j]? = some (V.int v) := by
                  match j with
                  | 0 => exact ⟨_, rfl⟩
                  | 1 => exact ⟨_, rfl⟩
                  | 2 => exact ⟨_, rfl⟩
                  | j + 3 => omega
                rw [hj]
                refine g_ixL (v := .int v) (.of htl) (atI_nat hv) ?_
                o_readsAll
                refine g_setL hba (by rw [List.length_map]; exact ixN_at (by omega)) (set_map bs wh v) ?_
                exact ⟨b, bs.set wh v, av, _, _, _, rfl, (s9.same ea).put nb, (o09.same ea).putF Fb, tabs_put (T9.ext ea) hba, nb, Fb, upd_same, by rw [List.length_set]; omega⟩
              · o_readsAll
                exact ⟨b, bs, av, _, _, _, rfl, s7, o07, T7, nb, Fb, hb7, by omega⟩
    · rintro σ' H5 ⟨b, bs, av, x8, x9, x10, rfl, s5, o5, T5, nb, Fb, hb5, hbl⟩
      have hp5 := o5.lst np hp
      have hq5 := o5.lst nq hq'
      o_readsAll
      refine c_kfault2 hp5 (show IL H5 q n cs from hq5) n40 hb5 (by omega) (fun hm => ?_) (fun rg hm => ?_)
      · o_readsAll
        refine i_lamS T5 fun f c' H6 e6 T6 hc6 => ?_
        have ht6 := (ht.off (o5.ext e6)).at
        have hb6 := e6 _ _ hb5 (fun _ z => nomatch z)
        have o6 := o5.ext e6
        have s6 := s5.ext e6
        have ht6' := ht6
        obtain ⟨dx, l, cl, i1, i2, i3⟩ := ht6'
        o_readsAll
        refine i_ifT ?_
        o_readsAll
        refine c_let (fun E1 Q1 h1 => ⟨hc6, ?_⟩) fun H7 e7 => ?_
        · o_readsAll
          exact ⟨t, b, av, L, n, fs, ret, cs, bs, rfl, ht6, n40, ok.ok, hb6, by omega, fun _ p' t' H7 fp ft e7 hp' ht' _ => h1 _ _ e7, fun x hx => by rw [hm] at hx; cases hx⟩
        · o_readsAll
          exact ⟨_, _, _, _, _, _, _, _, rfl, s6.same e7, o6.same e7, T6.ext e7⟩
      · o_readsAll
        refine i_lamS T5 fun f c' H6 e6 T6 hc6 => ?_
        have ht6 := (ht.off (o5.ext e6)).at
        have hb6 := e6 _ _ hb5 (fun _ z => nomatch z)
        have o6 := o5.ext e6
        have s6 := s5.ext e6
        o_readsAll
        refine i_ifT ?_
        o_readsAll
        rename_i du H7 fdu e7 hdu
        have ht7 := ht6.same e7
        have ht7' := ht7
        obtain ⟨dx, l, cl, i1, i2, i3⟩ := ht7'
        have hb7 := e7 _ _ hb6
        refine c_refused (v := .int _) err_BadTable trivial hdu (fun E1 Q1 h1 => ⟨e7 _ _ hc6, ?_⟩) fun H8 e8 => ?_
        · o_readsAll
          exact ⟨t, b, av, L, n, fs, ret, cs, bs, rfl, ht7, n40, ok.ok, hb7, by omega, (fun hx => by rw [hm] at hx; cases hx), fun x hx d H' fd e hd => by
            rw [hm] at hx
            cases hx
            exact h1 d H' e hd⟩
        · o_readsAll
          exact ⟨_, _, _, _, _, _, _, _, rfl, (s6.same e7).same e8, (o6.same e7).same e8, (T6.ext e7).ext e8⟩
  · rintro σ' H1 ⟨x5, x6, x7, x8, x9, x10, x11, x12, rfl, s1, o1, T1⟩
    o_readsAll
    exact k H1 s1 o1 T1
theorem c_kbent {st t p q r fl : Addr} {L : Int} {n : Nat} {fs : Nat → Int} {ret : Bool} {cs : Nat → Int} {rs : List Int} {H : Hp} {Q : VK} {E : XK} (hs : Stk H st) (ht : TabS Z.a_Table Z.a_Ladder st H t L n fs ret cs) (hp : H p = some (.lst [.int L, .ref fl, .bl ret])) (hq : IL H q n cs) (hr : H r = some (.lst (rs.map V.int))) (np : st ≠ p) (nq : st ≠ q) (nr : st ≠ r) (ok : TOk L n fs cs) (hrs : rs.length ≤ 6) (hT : LamX.Tabs (tabs Z) H) (k : ∀ H', Stk H' st → OffN st H H' → LamX.Tabs (tabs Z) H' → Q (.bl true) H') : sp_kbent Z [.ref st, .ref t, .ref p, .ref q, .ref r] H Q E := ⟨st, t, p, q, r, fl, L, n, fs, ret, cs, rs, rfl, hs, ht, hp, hq, hr, np, nq, nr, ok, hrs, hT, k⟩
end
end L25

namespace L25
set_option exponentiation.threshold 2000
open SX Ld
section
variable {P : Program} {w : World} {K : PySem.W.Frag} {mg : Str → Option Value} {base : Heap} {Z : Ad}
def sp_law (K : PySem.W.Frag) (Z : Ad) : Sp := fun vs H Q _ => ∃ (a : Addr) (ns : List Int), vs = [.ref a] ∧ SqL K H a (ns.map V.int) ∧ ns.length ≤ 63 ∧ LamX.Tabs (tabs Z) H ∧ ∀ H', Q (.bl true) H'
theorem ok_law (T : Txt K w mg Z) (B : Bas Z mg base) {f : Addr} {fd : FuncData} (F : Fun K "law" "law" st_law f fd) : FnOk P w K mg base CX0 13 f fd ["script"] (sp_law K Z) := by
  refine F.ok sc_law (fun vs H Q E h => by first | (obtain ⟨rfl, _⟩ := h; rfl) | (obtain ⟨_, rfl, _⟩ := h; rfl) | (obtain ⟨_, _, rfl, _⟩ := h; rfl) | (obtain ⟨_, _, _, rfl, _⟩ := h; rfl) | (obtain ⟨_, _, _, _, rfl, _⟩ := h; rfl) | (obtain ⟨_, _, _, _, _, rfl, _⟩ := h; rfl) | (obtain ⟨_, _, _, _, _, _, rfl, _⟩ := h; rfl) | (obtain ⟨_, _, _, _, _, _, _, rfl, _⟩ := h; rfl) | (obtain ⟨_, _, _, _, _, _, _, _, rfl, _⟩ := h; rfl) | (obtain ⟨_, _, _, _, _, _, _, _, _, rfl, _⟩ := h; rfl) | (obtain ⟨_, _, _, _, _, _, _, _, _, _, rfl, _⟩ := h; rfl) | (obtain ⟨_, _, _, _, _, _, _, _, _, _, _, rfl, _⟩ := h; rfl) | (obtain ⟨_, _, _, _, _, _, _, _, _, _, _, _, rfl, _⟩ := h; rfl) | (obtain ⟨_, _, _, _, _, _, _, _, _, _, _, _, _, rfl, _⟩ := h; rfl) | (obtain ⟨_, _, _, _, _, _, _, _, _, _, _, _, _, _, rfl, _⟩ := h; rfl) | (obtain ⟨_, _, _, _, _, _, _, _, _, _, _, _, _, _, _, rfl, _⟩ := h; rfl) | (obtain ⟨_, _, _, _, _, _, _, _, _, _, _, _, _, _, _, _, rfl, _⟩ := h; rfl)) (fun cdv A outer s H vs Q E hr h => ?_)
  obtain ⟨a, ns, rfl, hS, hns, hT, k⟩ := h
  have D_law_stock := d_law_stock (P := P) (base := base) T
  have D_law_e_ladder := d_law_e_ladder (P := P) (base := base) T
  have D_law_k25_counts := d_law_k25_counts (P := P) (base := base) T
  have D_Ladder_init := d_Ladder_init (P := P) (base := base) T
  have D_Table_init := d_Table_init (P := P) (base := base) T
  have D_Table_counts := d_Table_counts (P := P) (base := base) T
  have D_law_k25_called := d_law_k25_called (P := P) (base := base) T
  have D_law_k25_moves := d_law_k25_moves (P := P) (base := base) T B
  have D_law_k25_rungs_refused := d_law_k25_rungs_refused (P := P) (base := base) T B
  have D_law_k25_tellers := d_law_k25_tellers (P := P) (base := base) T
  have D_law_k25_meetings := d_law_k25_meetings (P := P) (base := base) T
  have D_law_k25_bent := d_law_k25_bent (P := P) (base := base) T B
  refine ⟨_, (pss_cons (ps_set (i := 1) sc_law.nd rfl (.inl rfl) (pe_dfn D_law_stock (hr.mono (by decide)) (by rfl) (pa_cons (pv 0) (pa_cons pe_int pa_nil))))
      (pss_cons (ps_set (i := 2) sc_law.nd rfl (.inl rfl) (pe_dfn D_law_e_ladder (hr.mono (by decide)) (by rfl) (pa_cons (pv 1) (pa_cons pe_int (pa_cons pe_int (pa_cons pe_int pa_nil))))))
      (pss_cons (ps_set (i := 3) sc_law.nd rfl (.inl rfl) (pe_dfn D_law_k25_counts (hr.mono (by decide)) (by rfl) (pa_cons (pv 1) (pa_cons (pv 2) pa_nil))))
      (pss_cons (ps_set (i := 4) sc_law.nd rfl (.inl rfl) (pe_ini D_Ladder_init (hr.mono (by decide)) (by rfl) (pa_cons (pe_ix ix_seq (pv 2) pe_int (fun _ _ => rfl)) (pa_cons (pe_ix ix_seq (pv 2) pe_int (fun _ _ => rfl)) (pa_cons (pe_ix ix_seq (pv 2) pe_int (fun _ _ => rfl)) pa_nil)))))
      (pss_cons (ps_set (i := 5) sc_law.nd rfl (.inl rfl) (pe_callTy call_uList (by rfl) T.b_list bt_list (pa_cons (pv 3) pa_nil)))
      (pss_cons (ps_set (i := 6) sc_law.nd rfl (.inl rfl) (pe_ini D_Table_init (hr.mono (by decide)) (by rfl) (pa_cons (pv 4) (pa_cons (pv 5) pa_nil))))
      (pss_cons (ps_augS (pv 5) pe_int get_list pe_int ip_add set_list)
      (pss_cons (ps_set (i := 7) sc_law.nd rfl (.inl rfl) (pe_ini D_Table_init (hr.mono (by decide)) (by rfl) (pa_cons (pv 4) (pa_cons (pe_lc (own := [("rung", 10)]) (by rfl) sc_law.nd (pi_list (pv 3)) (blkOk_by (N := n_law) (sc := defScope st_law) (by decide +kernel)) (fun _ _ _ _ _ => (pg_name (i := 10) sc_law.nd rfl (.inl rfl))) (fun _ _ _ _ _ => pts_nil) (fun _ _ _ _ _ => pe_int)) pa_nil))))
      (pss_cons (ps_if (PW.pt (pw_or (pt_not (pt_u (pe_dfn D_law_k25_tellers (hr.mono (by decide)) (by rfl) (pa_cons (pv 6) (pa_cons (pv 2) (pa_cons (pv 3) pa_nil)))))) (pw_or1 (pt_not (pt_u (pe_dfn D_law_k25_tellers (hr.mono (by decide)) (by rfl) (pa_cons (pv 7) (pa_cons (pv 2) (pa_cons (pe_lc (own := [("rung", 10)]) (by rfl) sc_law.nd (pi_list (pv 3)) (blkOk_by (N := n_law) (sc := defScope st_law) (by decide +kernel)) (fun _ _ _ _ _ => (pg_name (i := 10) sc_law.nd rfl (.inl rfl))) (fun _ _ _ _ _ => pts_nil) (fun _ _ _ _ _ => pe_int)) pa_nil))))))))) (pss_one (ps_ret pe_bl)) pss_nil)
      (pss_cons (ps_set (i := 8) sc_law.nd rfl (.inl rfl) (pe_mth0 D_Table_counts (hr.mono (by decide)) (pv 6)))
      (pss_cons (ps_augS (pv 8) pe_int get_list pe_int ip_add set_list)
      (pss_cons (ps_if (pt_not (pt_u (pe_dfn D_law_k25_moves (hr.mono (by decide)) (by rfl) (pa_cons (pv 1) (pa_cons (pv 6) (pa_cons (pv 2) (pa_cons (pv 3) pa_nil))))))) (pss_one (ps_ret pe_bl)) pss_nil)
      (pss_cons (ps_set (i := 9) sc_law.nd rfl (.inl rfl) (pe_dfn D_law_k25_called (hr.mono (by decide)) (by rfl) (pa_cons (pv 1) (pa_cons (pv 2) (pa_cons (pv 3) pa_nil)))))
      (pss_cons (ps_if (PW.pt (pw_or (pt_not (pt_u (pe_dfn D_law_k25_meetings (hr.mono (by decide)) (by rfl) (pa_cons (pv 6) (pa_cons (pv 2) (pa_cons (pv 3) (pa_cons (pv 9) pa_nil))))))) (pw_or1 (pt_not (pt_u (pe_dfn D_law_k25_bent (hr.mono (by decide)) (by rfl) (pa_cons (pv 1) (pa_cons (pv 6) (pa_cons (pv 2) (pa_cons (pv 3) (pa_cons (pv 9) pa_nil))))))))))) (pss_one (ps_ret pe_bl)) pss_nil)
      (pss_one (ps_ret (pe_and (pe_dfn D_law_k25_rungs_refused (hr.mono (by decide)) (by rfl) (pa_cons (pv 6) (pa_cons (pe_callB call_uLen (by rfl) T.b_len bt_len (pa_cons (pv 3) pa_nil)) pa_nil))) (pe_one (pe_dfn D_law_k25_tellers (hr.mono (by decide)) (by rfl) (pa_cons (pv 6) (pa_cons (pv 2) (pa_cons (pv 3) pa_nil)))))))))))))))))))))), ?_⟩
  try dsimp only [cxOf, Cx.nox, Cx.wish]
  show (_ : TS) _ [some _, none, none, none, none, none, none, none, none, none, none] _
  o_readsAll
  refine c_stock (at_ := 0) hS hns (by decide) fun st H1 f1 e1 s1 => ?_
  have T1 := hT.ext e1
  o_readsAll
  refine c_elad (lo := 1) (hi := 5) (wi := 6) (by decide) (by decide) (by decide) (by decide) (by decide) s1 fun p L n fs ret H4 fp s4 o4 hp nfl l2 l6 n1 n5 okf => ?_
  have np : st ≠ p := s1.ne fp
  have T4 := tabs_off T1 s1 o4
  obtain ⟨fl, hp1, hp2⟩ := hp
  have nf := nfl fl hp1
  o_readsAll
  refine c_kcounts s4 hp1 hp2 np nf l2 l6 (by omega) (by omega) fun q cs H5 fq s5 o5 hq hcs hsm => ?_
  have nq : st ≠ q := s4.ne fq
  have T5 := tabs_off T4 s4 o5
  have hp5 := o5 _ _ np.symm hp1
  have hf5 : IL H5 fl n fs := o5 _ _ nf.symm hp2
  have hf5' := hf5
  unfold IL at hf5'
  o_readsAll
  refine c_lmake hf5 l2 l6 (by omega) (by omega) okf fun l H6 fl6 e6 hl => ?_
  have nl : l ≠ st := (s5.ne fl6).symm
  have hq6 := hq.same e6
  have hq6' := hq6
  unfold IL at hq6'
  o_readsAll
  rename_i hn H7 fhn e7 hhn N7 hN7
  have nh : st ≠ hn := (s5.same e6).ne fhn
  have c0 : ∀ i, i < n → 0 ≤ cs i := fun i hi => (hcs i hi).1
  refine c_tmakeF (hl.same e7).at (show IL H7 hn n cs from hhn) (by omega) c0 fun t H8 ft e8 ht8 ⟨dx, cl, fcl, g1, g2⟩ => ?_
  have hhn8 := e8 _ _ hhn
  o_readsAll
  refine g_ixLg (.of hhn8) (atI_nat (j := 0) (rng_at (by omega))) ?_
  o_readsAll
  refine g_setL hhn8 (by rw [rng_len]; exact ixN_at (j := 0) (by omega)) rfl ?_
  have nth : t ≠ hn := (ne_of_none hhn ft).symm
  have nch : cl ≠ hn := (ne_of_none hhn fcl).symm
  have s7 := (s5.same e6).same e7
  have nts : t ≠ st := (s7.ne ft).symm
  have ncs : cl ≠ st := (s7.ne fcl).symm
  generalize ((rng n cs).set 0 _) = ys
  have e69 : Same H6 (upd H8 hn (.lst ys)) := Eg.Same.put (e7.trans e8) fhn
  have g19 : upd H8 hn (.lst ys) t = some (.ins Z.a_Table dx [("ladder_kept", .ref l), ("counts_list", .ref cl)]) := by rw [upd_ne nth]; exact g1
  have g29 : IL (upd H8 hn (.lst ys)) cl n cs := by
    unfold IL
    rw [upd_ne nch]
    exact g2
  generalize upd H8 hn (.lst ys) = H9 at *
  have hl9 := hl.same e69
  have e59 := e6.trans e69
  have s9 := s5.same e59
  have T9 := T5.ext e59
  have hp9 := e59 _ _ hp5
  have hf9 := hf5.same e59
  have hf9' := hf9
  unfold IL at hf9'
  have hq9 := hq.same e59
  have hq9' := hq9
  unfold IL at hq9'
  obtain ⟨u0, u1, u2, hst5⟩ := s5
  have hTab : TabS Z.a_Table Z.a_Ladder st H9 t L n fs ret cs := fun H' o => ⟨dx, l, cl, o _ _ nts g19 (fun _ z => nomatch z), (by
    have z := o _ _ ncs (show H9 cl = some (.lst (rng n cs)) from g29) (fun _ z => nomatch z)
    exact z), (hl9.offN hst5 nl o).at⟩
  have ok : TOk L n fs cs := ⟨l2, l6, by omega, by omega, okf, c0, fun i hi => by
    obtain ⟨x, y⟩ := hcs i hi
    have h : (2 : Int) ^ 150 < 2 ^ 220 := by decide
    omega⟩
  have ok0 : TOk L n fs (fun _ => 0) := ⟨l2, l6, by omega, by omega, okf, fun i hi => Int.le_refl 0, fun i hi => by decide⟩
  have hcb : ∀ i, i < n → cs i < 2 ^ 200 := fun i hi => by
    obtain ⟨x, y⟩ := hcs i hi
    have h : (2 : Int) ^ 150 < 2 ^ 200 := by decide
    omega
  clear hhn hhn8 ht8 g1 g2 hp5 hf5 hf5' hq hq6 hq6' e7 e8
  o_readsAll
  refine l_lstP (fun i => .int 0) (.of hq9') (fun x => rfl) (fun D i x H' hx hD e hl => ?_) fun z H10 fz e10 hz => ?_
  · o_readsAll
    rw [List.getElem?_eq_some_iff] at hx
    obtain ⟨hx1, _⟩ := hx
    rw [rng_len] at hx1
    exact g_itemP e hl hD (by rw [sizeLine_eq]; omega) rfl
  · rw [rng_len] at hz
    have hz' : IL H10 z n (fun _ => 0) := hz
    o_readsAll
    refine c_tmake (hl9.same e10).at hz' (by omega) (fun i hi => Int.le_refl 0) fun ot H11 fot e11 hot => ?_
    have e911 := e10.trans e11
    have ht11 := hTab.at.same e911
    have hp11 : PlA H11 p L n fs ret := ⟨fl, e911 _ _ hp9, hf9.same e911⟩
    have hq11 := e911 _ _ hq9'
    o_readsAll
    refine c_ktell ht11 hp11 (hq9.same e911) ok fun H12 e12 => ?_
    have e912 := e911.trans e12
    have hq12 := e912 _ _ hq9'
    o_readsAll
    refine l_lstP (fun i => .int 0) (.of hq12) (fun x => rfl) (fun D i x H' hx hD e hl => ?_) fun z2 H13 fz2 e13 hz2 => ?_
    · o_readsAll
      rw [List.getElem?_eq_some_iff] at hx
      obtain ⟨hx1, _⟩ := hx
      rw [rng_len] at hx1
      exact g_itemP e hl hD (by rw [sizeLine_eq]; omega) rfl
    · rw [rng_len] at hz2
      have hz2' : IL H13 z2 n (fun _ => 0) := hz2
      have e913 := e912.trans e13
      o_readsAll
      refine c_ktell (hot.same (e12.trans e13)) ⟨fl, e913 _ _ hp9, hf9.same e913⟩ hz2' ok0 fun H14 e14 => ?_
      have e914 := e913.trans e14
      have ht14 := hTab.at.same e914
      o_readsAll
      refine c_tcnt ht14 fun tc H15 ftc e15 htc => ?_
      have htc' := htc
      unfold IL at htc'
      o_readsAll
      refine g_ixLg (.of htc') (atI_nat (j := 0) (rng_at (by omega))) ?_
      o_readsAll
      refine g_setL htc' (by rw [rng_len]; exact ixN_at (j := 0) (by omega)) rfl ?_
      generalize ((rng n cs).set 0 _) = ys2
      have e1416 : Same H14 (upd H15 tc (.lst ys2)) := Eg.Same.put e15 ftc
      generalize upd H15 tc (.lst ys2) = H16 at *
      have e916 := e914.trans e1416
      have O16 : OffN st H9 H16 := (OffN.refl _ _).same e916
      have T16 := T9.ext e916
      have s16 := s9.same e916
      clear htc htc' e15 e1416 e14 e13 e12 e11 e10
      o_readsAll
      refine c_kmoves s16 (hTab.off O16) (O16.lst np hp9) (show IL H16 fl n fs from O16.lst nf hf9') (show IL H16 q n cs from O16.lst nq hq9') np nf nq ok hcb T16 fun H17 s17 o17 T17 => ?_
      have O17 := O16.trans o17
      have hq17 := O17.lst nq hq9'
      o_readsAll
      refine c_kcalled s17 (O17.lst np hp9) (show IL H17 q n cs from hq17) np nq l2 l6 (by omega) (by omega) c0 hsm fun r rs H18 fr s18 o18 hr18 hrl hrm hrc => ?_
      have nr : st ≠ r := s17.ne fr
      have O18 := O17.off o18
      have T18 := tabs_off T17 s17 o18
      o_readsAll
      refine c_kmeet (hTab.off O18).at (O18.lst np hp9) (show IL H18 fl n fs from O18.lst nf hf9') (show IL H18 q n cs from O18.lst nq hq9') hr18 ok hcb hrl hrm hrc fun H19 e19 => ?_
      have O19 := O18.same e19
      o_readsAll
      refine c_kbent (s18.same e19) (hTab.off O19) (O19.lst np hp9) (show IL H19 q n cs from O19.lst nq hq9') (e19 _ _ hr18) np nq nr ok (by omega) (T18.ext e19) fun H20 s20 o20 T20 => ?_
      have O20 := O19.trans o20
      have hq20 := O20.lst nq hq9'
      o_readsAll
      rw [rng_len]
      refine c_krr (hTab.off O20).at ok T20 fun H21 e21 => ?_
      have O21 := O20.ext e21
      o_readsAll
      refine c_ktell (hTab.off O21).at ⟨fl, O21.lst np hp9, (show IL H21 fl n fs from O21.lst nf hf9')⟩ (show IL H21 q n cs from O21.lst nq hq9') ok fun H22 e22 => ?_
      o_readsAll
      exact k H22
end
end L25

end
namespace L25
open PySem PySem.Spec PyProof.Rows L2 Rl Eg
/-- an error of its own class is caught -/
theorem exm_own {K : PySem.W.Frag} {C : Addr} (h1 : PySem.W.subIn K (.ref C) (.type "BaseException") = some true) (h2 : PySem.W.isClsIn K C = true) (h3 : PySem.W.typeIn K (.ref C) = some (.type "type")) (h4 : PySem.W.subIn K (.ref C) (.ref C) = some true) : PySem.W.exmOne K (.ref C) (.ref C) = some true := by
  have z : (PySem.W.clsIn K C).isSome = true := h2
  simp only [PySem.W.exmOne, PySem.W.kitCls, h1, h3, h4, z]
  rfl
theorem all_mk {l : PySem.W.OpenLaw} {w : World} {K : PySem.W.Frag} {h : Heap} {mg : Str → Option Value} {fa a_Table a_Ladder a_LIMITS a_TOLD a_BadLadder a_BadTable a_WinsError a_TooMany a_BadDemand a_BadText a_BadSeason a_BadCode a_BadEvent a_BadFoe a_BadPaper a_BadDisk a_BadDeed c_law_k25_bent p_law_k25_bent c_law_k25_moves p_law_k25_moves c_law_k25_rungs_refused p_law_k25_rungs_refused f_BadLadder_init f_BadTable_init f_grown f_load_rows f_head_row f_worth_row f_wrong_count f_Table_init f_Table_ladder f_Table_counts f_Table_on f_Table_players f_Table_above f_Table_heads f_Table_worth f_Table_load f_Table_put f_Table_take f_Table_moved f_Table_level f_Table_check_called f_Table_behind f_bound f_wrong_rung f_Ladder_init f_Ladder_same_as f_Ladder_lanes f_Ladder_rungs f_Ladder_falls f_Ladder_returns f_Ladder_check_rung f_Ladder_check_place f_Ladder_fall f_Ladder_load f_Ladder_heads f_Ladder_worth f_Ladder_weights f_law_e_named f_law_e_asked f_law_e_refused f_law_e_let f_law_e_falls f_law_e_ladder f_law_e_low f_law_e_loads f_law_e_heads f_law_e_worths f_law_e_sum f_law_e_behind f_law_stock f_law_draw f_law_matches f_law_k25_counts f_law_k25_tellers f_law_k25_called f_law_k25_meetings f_law_k25_fault f_law_k25_bent f_law_k25_moves f_law_k25_rungs_refused f_law : Addr} (X : K.In h) (G : h.Ns mainGlobals mg) (hfa : mg "law" = some (.ref fa))
    {od_BadLadder_init an_BadLadder_init od_BadTable_init an_BadTable_init od_grown an_grown od_load_rows an_load_rows od_head_row an_head_row od_worth_row an_worth_row od_wrong_count an_wrong_count od_Table_init an_Table_init od_Table_ladder an_Table_ladder od_Table_counts an_Table_counts od_Table_on an_Table_on od_Table_players an_Table_players od_Table_above an_Table_above od_Table_heads an_Table_heads od_Table_worth an_Table_worth od_Table_load an_Table_load od_Table_put an_Table_put od_Table_take an_Table_take od_Table_moved an_Table_moved od_Table_level an_Table_level od_Table_check_called an_Table_check_called od_Table_behind an_Table_behind od_bound an_bound od_wrong_rung an_wrong_rung od_Ladder_init an_Ladder_init od_Ladder_same_as an_Ladder_same_as od_Ladder_lanes an_Ladder_lanes od_Ladder_rungs an_Ladder_rungs od_Ladder_falls an_Ladder_falls od_Ladder_returns an_Ladder_returns od_Ladder_check_rung an_Ladder_check_rung od_Ladder_check_place an_Ladder_check_place od_Ladder_fall an_Ladder_fall od_Ladder_load an_Ladder_load od_Ladder_heads an_Ladder_heads od_Ladder_worth an_Ladder_worth od_Ladder_weights an_Ladder_weights od_law_e_named an_law_e_named od_law_e_asked an_law_e_asked od_law_e_refused an_law_e_refused od_law_e_let an_law_e_let od_law_e_falls an_law_e_falls od_law_e_ladder an_law_e_ladder od_law_e_low an_law_e_low od_law_e_loads an_law_e_loads od_law_e_heads an_law_e_heads od_law_e_worths an_law_e_worths od_law_e_sum an_law_e_sum od_law_e_behind an_law_e_behind od_law_stock an_law_stock od_law_draw an_law_draw od_law_matches an_law_matches od_law_k25_counts an_law_k25_counts od_law_k25_tellers an_law_k25_tellers od_law_k25_called an_law_k25_called od_law_k25_meetings an_law_k25_meetings od_law_k25_fault an_law_k25_fault od_law_k25_bent an_law_k25_bent vo_law_k25_bent od_law_k25_moves an_law_k25_moves vo_law_k25_moves od_law_k25_rungs_refused an_law_k25_rungs_refused vo_law_k25_rungs_refused od_law an_law : Option Addr}
    {sl_BadLadder_init sl_BadTable_init sl_grown sl_load_rows sl_head_row sl_worth_row sl_wrong_count sl_Table_init sl_Table_ladder sl_Table_counts sl_Table_on sl_Table_players sl_Table_above sl_Table_heads sl_Table_worth sl_Table_load sl_Table_put sl_Table_take sl_Table_moved sl_Table_level sl_Table_check_called sl_Table_behind sl_bound sl_wrong_rung sl_Ladder_init sl_Ladder_same_as sl_Ladder_lanes sl_Ladder_rungs sl_Ladder_falls sl_Ladder_returns sl_Ladder_check_rung sl_Ladder_check_place sl_Ladder_fall sl_Ladder_load sl_Ladder_heads sl_Ladder_worth sl_Ladder_weights sl_law_e_named sl_law_e_asked sl_law_e_refused sl_law_e_let sl_law_e_falls sl_law_e_ladder sl_law_e_low sl_law_e_loads sl_law_e_heads sl_law_e_worths sl_law_e_sum sl_law_e_behind sl_law_stock sl_law_draw sl_law_matches sl_law_k25_counts sl_law_k25_tellers sl_law_k25_called sl_law_k25_meetings sl_law_k25_fault sl_law_k25_bent vl_law_k25_bent sl_law_k25_moves vl_law_k25_moves sl_law_k25_rungs_refused vl_law_k25_rungs_refused sl_law : Array (Option Value)}
    {oc_BadLadder_init kV_BadLadder_init dc_BadLadder_init pm_BadLadder_init cd_BadLadder_init ct_BadLadder_init oc_BadTable_init kV_BadTable_init dc_BadTable_init pm_BadTable_init cd_BadTable_init ct_BadTable_init oc_grown kV_grown dc_grown pm_grown cd_grown ct_grown oc_load_rows kV_load_rows dc_load_rows pm_load_rows cd_load_rows ct_load_rows oc_head_row kV_head_row dc_head_row pm_head_row cd_head_row ct_head_row oc_worth_row kV_worth_row dc_worth_row pm_worth_row cd_worth_row ct_worth_row oc_wrong_count kV_wrong_count dc_wrong_count pm_wrong_count cd_wrong_count ct_wrong_count oc_Table_init kV_Table_init dc_Table_init pm_Table_init cd_Table_init ct_Table_init oc_Table_ladder kV_Table_ladder dc_Table_ladder pm_Table_ladder cd_Table_ladder ct_Table_ladder oc_Table_counts kV_Table_counts dc_Table_counts pm_Table_counts cd_Table_counts ct_Table_counts oc_Table_on kV_Table_on dc_Table_on pm_Table_on cd_Table_on ct_Table_on oc_Table_players kV_Table_players dc_Table_players pm_Table_players cd_Table_players ct_Table_players oc_Table_above kV_Table_above dc_Table_above pm_Table_above cd_Table_above ct_Table_above oc_Table_heads kV_Table_heads dc_Table_heads pm_Table_heads cd_Table_heads ct_Table_heads oc_Table_worth kV_Table_worth dc_Table_worth pm_Table_worth cd_Table_worth ct_Table_worth oc_Table_load kV_Table_load dc_Table_load pm_Table_load cd_Table_load ct_Table_load oc_Table_put kV_Table_put dc_Table_put pm_Table_put cd_Table_put ct_Table_put oc_Table_take kV_Table_take dc_Table_take pm_Table_take cd_Table_take ct_Table_take oc_Table_moved kV_Table_moved dc_Table_moved pm_Table_moved cd_Table_moved ct_Table_moved oc_Table_level kV_Table_level dc_Table_level pm_Table_level cd_Table_level ct_Table_level oc_Table_check_called kV_Table_check_called dc_Table_check_called pm_Table_check_called cd_Table_check_called ct_Table_check_called oc_Table_behind kV_Table_behind dc_Table_behind pm_Table_behind cd_Table_behind ct_Table_behind oc_bound kV_bound dc_bound pm_bound cd_bound ct_bound oc_wrong_rung kV_wrong_rung dc_wrong_rung pm_wrong_rung cd_wrong_rung ct_wrong_rung oc_Ladder_init kV_Ladder_init dc_Ladder_init pm_Ladder_init cd_Ladder_init ct_Ladder_init oc_Ladder_same_as kV_Ladder_same_as dc_Ladder_same_as pm_Ladder_same_as cd_Ladder_same_as ct_Ladder_same_as oc_Ladder_lanes kV_Ladder_lanes dc_Ladder_lanes pm_Ladder_lanes cd_Ladder_lanes ct_Ladder_lanes oc_Ladder_rungs kV_Ladder_rungs dc_Ladder_rungs pm_Ladder_rungs cd_Ladder_rungs ct_Ladder_rungs oc_Ladder_falls kV_Ladder_falls dc_Ladder_falls pm_Ladder_falls cd_Ladder_falls ct_Ladder_falls oc_Ladder_returns kV_Ladder_returns dc_Ladder_returns pm_Ladder_returns cd_Ladder_returns ct_Ladder_returns oc_Ladder_check_rung kV_Ladder_check_rung dc_Ladder_check_rung pm_Ladder_check_rung cd_Ladder_check_rung ct_Ladder_check_rung oc_Ladder_check_place kV_Ladder_check_place dc_Ladder_check_place pm_Ladder_check_place cd_Ladder_check_place ct_Ladder_check_place oc_Ladder_fall kV_Ladder_fall dc_Ladder_fall pm_Ladder_fall cd_Ladder_fall ct_Ladder_fall oc_Ladder_load kV_Ladder_load dc_Ladder_load pm_Ladder_load cd_Ladder_load ct_Ladder_load oc_Ladder_heads kV_Ladder_heads dc_Ladder_heads pm_Ladder_heads cd_Ladder_heads ct_Ladder_heads oc_Ladder_worth kV_Ladder_worth dc_Ladder_worth pm_Ladder_worth cd_Ladder_worth ct_Ladder_worth oc_Ladder_weights kV_Ladder_weights dc_Ladder_weights pm_Ladder_weights cd_Ladder_weights ct_Ladder_weights oc_law_e_named kV_law_e_named dc_law_e_named pm_law_e_named cd_law_e_named ct_law_e_named oc_law_e_asked kV_law_e_asked dc_law_e_asked pm_law_e_asked cd_law_e_asked ct_law_e_asked oc_law_e_refused kV_law_e_refused dc_law_e_refused pm_law_e_refused cd_law_e_refused ct_law_e_refused oc_law_e_let kV_law_e_let dc_law_e_let pm_law_e_let cd_law_e_let ct_law_e_let oc_law_e_falls kV_law_e_falls dc_law_e_falls pm_law_e_falls cd_law_e_falls ct_law_e_falls oc_law_e_ladder kV_law_e_ladder dc_law_e_ladder pm_law_e_ladder cd_law_e_ladder ct_law_e_ladder oc_law_e_low kV_law_e_low dc_law_e_low pm_law_e_low cd_law_e_low ct_law_e_low oc_law_e_loads kV_law_e_loads dc_law_e_loads pm_law_e_loads cd_law_e_loads ct_law_e_loads oc_law_e_heads kV_law_e_heads dc_law_e_heads pm_law_e_heads cd_law_e_heads ct_law_e_heads oc_law_e_worths kV_law_e_worths dc_law_e_worths pm_law_e_worths cd_law_e_worths ct_law_e_worths oc_law_e_sum kV_law_e_sum dc_law_e_sum pm_law_e_sum cd_law_e_sum ct_law_e_sum oc_law_e_behind kV_law_e_behind dc_law_e_behind pm_law_e_behind cd_law_e_behind ct_law_e_behind oc_law_stock kV_law_stock dc_law_stock pm_law_stock cd_law_stock ct_law_stock oc_law_draw kV_law_draw dc_law_draw pm_law_draw cd_law_draw ct_law_draw oc_law_matches kV_law_matches dc_law_matches pm_law_matches cd_law_matches ct_law_matches oc_law_k25_counts kV_law_k25_counts dc_law_k25_counts pm_law_k25_counts cd_law_k25_counts ct_law_k25_counts oc_law_k25_tellers kV_law_k25_tellers dc_law_k25_tellers pm_law_k25_tellers cd_law_k25_tellers ct_law_k25_tellers oc_law_k25_called kV_law_k25_called dc_law_k25_called pm_law_k25_called cd_law_k25_called ct_law_k25_called oc_law_k25_meetings kV_law_k25_meetings dc_law_k25_meetings pm_law_k25_meetings cd_law_k25_meetings ct_law_k25_meetings oc_law_k25_fault kV_law_k25_fault dc_law_k25_fault pm_law_k25_fault cd_law_k25_fault ct_law_k25_fault oc_law_k25_bent kV_law_k25_bent dc_law_k25_bent pm_law_k25_bent ct_law_k25_bent oc_law_k25_moves kV_law_k25_moves dc_law_k25_moves pm_law_k25_moves ct_law_k25_moves oc_law_k25_rungs_refused kV_law_k25_rungs_refused dc_law_k25_rungs_refused pm_law_k25_rungs_refused ct_law_k25_rungs_refused oc_law kV_law dc_law pm_law cd_law ct_law : Value}
    {vs_law_k25_bent vs_law_k25_moves vs_law_k25_rungs_refused : Array Value}
    {t_LIMITS_lines t_LIMITS_words t_LIMITS_number t_LIMITS_depth t_LIMITS_blocks t_LIMITS_lanes t_LIMITS_rungs t_LIMITS_ways t_LIMITS_promises t_LIMITS_variables t_LIMITS_states t_LIMITS_rows t_LIMITS_events t_LIMITS_meetings t_LIMITS_housemeetings t_LIMITS_rounds t_LIMITS_late t_LIMITS_plan t_LIMITS_nodes t_LIMITS_players t_LIMITS_log t_LIMITS_signs t_OUT t_TOLD_blocks t_TOLD_states t_TOLD_housemeetings : Tok}
    {n_LIMITS n_TOLD : Nat}
    {nm_BadLadder q_BadLadder : Str} {N_BadLadder : Addr} {bs_BadLadder bm_BadLadder : List Value} {sn_BadLadder : List Str} {sub_BadLadder : List Value} {ab_BadLadder : Bool} {col_BadLadder : Option Bool} {dd_BadLadder : Option Addr} {k0_BadLadder k1_BadLadder k2_BadLadder k3_BadLadder k5_BadLadder : Option Value}
    {nm_BadTable q_BadTable : Str} {N_BadTable : Addr} {bs_BadTable bm_BadTable : List Value} {sn_BadTable : List Str} {sub_BadTable : List Value} {ab_BadTable : Bool} {col_BadTable : Option Bool} {dd_BadTable : Option Addr} {k0_BadTable k1_BadTable k2_BadTable k3_BadTable k5_BadTable : Option Value}
    {e_LIMITS e_TOLD : Array DictEntry}
    (g_Table : PySem.W.nsIn K mainGlobals "Table" = some (some (.ref a_Table)))
    (pg_Table : PySem.W.plainGet K a_Table Str.empty = true)
    (hd_Table : PySem.W.hasDictIn K a_Table = true)
    (po_Table : PySem.W.plainOver K a_Table = true)
    (sa_Table : PySem.W.findIn K (.ref a_Table) "__setattr__" = some (some (.builtin "object.__setattr__")))
    (mk_Table : PySem.W.makesIn K a_Table = true)
    (kc_Table : PySem.W.keepIn K (.ref a_Table) = true)
    (g_Ladder : PySem.W.nsIn K mainGlobals "Ladder" = some (some (.ref a_Ladder)))
    (pg_Ladder : PySem.W.plainGet K a_Ladder Str.empty = true)
    (hd_Ladder : PySem.W.hasDictIn K a_Ladder = true)
    (po_Ladder : PySem.W.plainOver K a_Ladder = true)
    (sa_Ladder : PySem.W.findIn K (.ref a_Ladder) "__setattr__" = some (some (.builtin "object.__setattr__")))
    (mk_Ladder : PySem.W.makesIn K a_Ladder = true)
    (kc_Ladder : PySem.W.keepIn K (.ref a_Ladder) = true)
    (b_ValueError : PySem.W.nsIn K mainGlobals "ValueError" = some none)
    (b_abs : PySem.W.nsIn K mainGlobals "abs" = some none)
    (b_all : PySem.W.nsIn K mainGlobals "all" = some none)
    (b_bool : PySem.W.nsIn K mainGlobals "bool" = some none)
    (b_enumerate : PySem.W.nsIn K mainGlobals "enumerate" = some none)
    (b_int : PySem.W.nsIn K mainGlobals "int" = some none)
    (b_isinstance : PySem.W.nsIn K mainGlobals "isinstance" = some none)
    (b_len : PySem.W.nsIn K mainGlobals "len" = some none)
    (b_list : PySem.W.nsIn K mainGlobals "list" = some none)
    (b_max : PySem.W.nsIn K mainGlobals "max" = some none)
    (b_min : PySem.W.nsIn K mainGlobals "min" = some none)
    (b_range : PySem.W.nsIn K mainGlobals "range" = some none)
    (b_reversed : PySem.W.nsIn K mainGlobals "reversed" = some none)
    (b_str : PySem.W.nsIn K mainGlobals "str" = some none)
    (b_sum : PySem.W.nsIn K mainGlobals "sum" = some none)
    (b_tuple : PySem.W.nsIn K mainGlobals "tuple" = some none)
    (c_LIMITS : PySem.W.nsIn K mainGlobals "LIMITS" = some (some (.ref a_LIMITS)))
    (l_LIMITS : K.lookup a_LIMITS = some ⟨.type "dict", none, .dict e_LIMITS n_LIMITS, #[]⟩)
    (kl_LIMITS : PySem.W.KeysLit w.params (e_LIMITS).toList)
    (v_LIMITS_lines : PySem.W.nsIn K a_LIMITS "lines" = some (some (.int 300 t_LIMITS_lines)))
    (v_LIMITS_words : PySem.W.nsIn K a_LIMITS "words" = some (some (.int 60 t_LIMITS_words)))
    (v_LIMITS_number : PySem.W.nsIn K a_LIMITS "number" = some (some (.int 1000000000000000000000000000000 t_LIMITS_number)))
    (v_LIMITS_depth : PySem.W.nsIn K a_LIMITS "depth" = some (some (.int 20 t_LIMITS_depth)))
    (v_LIMITS_blocks : PySem.W.nsIn K a_LIMITS "blocks" = some (some (.int 12 t_LIMITS_blocks)))
    (v_LIMITS_lanes : PySem.W.nsIn K a_LIMITS "lanes" = some (some (.int 6 t_LIMITS_lanes)))
    (v_LIMITS_rungs : PySem.W.nsIn K a_LIMITS "rungs" = some (some (.int 40 t_LIMITS_rungs)))
    (v_LIMITS_ways : PySem.W.nsIn K a_LIMITS "ways" = some (some (.int 8 t_LIMITS_ways)))
    (v_LIMITS_promises : PySem.W.nsIn K a_LIMITS "promises" = some (some (.int 20 t_LIMITS_promises)))
    (v_LIMITS_variables : PySem.W.nsIn K a_LIMITS "variables" = some (some (.int 4 t_LIMITS_variables)))
    (v_LIMITS_states : PySem.W.nsIn K a_LIMITS "states" = some (some (.int 400 t_LIMITS_states)))
    (v_LIMITS_rows : PySem.W.nsIn K a_LIMITS "rows" = some (some (.int 600 t_LIMITS_rows)))
    (v_LIMITS_events : PySem.W.nsIn K a_LIMITS "events" = some (some (.int 3000 t_LIMITS_events)))
    (v_LIMITS_meetings : PySem.W.nsIn K a_LIMITS "meetings" = some (some (.int 3000 t_LIMITS_meetings)))
    (v_LIMITS_housemeetings : PySem.W.nsIn K a_LIMITS "housemeetings" = some (some (.int 400 t_LIMITS_housemeetings)))
    (v_LIMITS_rounds : PySem.W.nsIn K a_LIMITS "rounds" = some (some (.int 300 t_LIMITS_rounds)))
    (v_LIMITS_late : PySem.W.nsIn K a_LIMITS "late" = some (some (.int 6 t_LIMITS_late)))
    (v_LIMITS_plan : PySem.W.nsIn K a_LIMITS "plan" = some (some (.int 200 t_LIMITS_plan)))
    (v_LIMITS_nodes : PySem.W.nsIn K a_LIMITS "nodes" = some (some (.int 2000 t_LIMITS_nodes)))
    (v_LIMITS_players : PySem.W.nsIn K a_LIMITS "players" = some (some (.int 60 t_LIMITS_players)))
    (v_LIMITS_log : PySem.W.nsIn K a_LIMITS "log" = some (some (.int 2000 t_LIMITS_log)))
    (v_LIMITS_signs : PySem.W.nsIn K a_LIMITS "signs" = some (some (.int 2000 t_LIMITS_signs)))
    (c_OUT : PySem.W.nsIn K mainGlobals "OUT" = some (some (.int (-1) t_OUT)))
    (c_TOLD : PySem.W.nsIn K mainGlobals "TOLD" = some (some (.ref a_TOLD)))
    (l_TOLD : K.lookup a_TOLD = some ⟨.type "dict", none, .dict e_TOLD n_TOLD, #[]⟩)
    (kl_TOLD : PySem.W.KeysLit w.params (e_TOLD).toList)
    (v_TOLD_blocks : PySem.W.nsIn K a_TOLD "blocks" = some (some (.str "depth" t_TOLD_blocks)))
    (v_TOLD_states : PySem.W.nsIn K a_TOLD "states" = some (some (.str "variables" t_TOLD_states)))
    (v_TOLD_housemeetings : PySem.W.nsIn K a_TOLD "housemeetings" = some (some (.str "meetings" t_TOLD_housemeetings)))
    (n_Table_ladder_kept : PySem.W.findIn K (.ref a_Table) "ladder_kept" = some none)
    (n_Table_counts_list : PySem.W.findIn K (.ref a_Table) "counts_list" = some none)
    (n_Ladder_lanes_number : PySem.W.findIn K (.ref a_Ladder) "lanes_number" = some none)
    (n_Ladder_falls_list : PySem.W.findIn K (.ref a_Ladder) "falls_list" = some none)
    (n_Ladder_returns_kept : PySem.W.findIn K (.ref a_Ladder) "returns_kept" = some none)
    (n_Ladder_loads_table : PySem.W.findIn K (.ref a_Ladder) "loads_table" = some none)
    (n_Ladder_heads_list : PySem.W.findIn K (.ref a_Ladder) "heads_list" = some none)
    (n_Ladder_worths_list : PySem.W.findIn K (.ref a_Ladder) "worths_list" = some none)
    (g_BadLadder : PySem.W.nsIn K mainGlobals "BadLadder" = some (some (.ref a_BadLadder)))
    (xl_BadLadder : K.lookup a_BadLadder = some (excClassObj nm_BadLadder q_BadLadder a_BadLadder N_BadLadder bs_BadLadder bm_BadLadder true sn_BadLadder sub_BadLadder ab_BadLadder col_BadLadder dd_BadLadder k0_BadLadder k1_BadLadder k2_BadLadder k3_BadLadder k5_BadLadder "ValueError.__new__"))
    (rv_BadLadder : PySem.HandSPX.refsVE bm_BadLadder = true)
    (sa_BadLadder : PySem.W.findIn K (.ref a_BadLadder) "__setattr__" = some (some (.builtin "object.__setattr__")))
    (ec_BadLadder : PySem.W.subIn K (.ref a_BadLadder) (.type "BaseException") = some true)
    (ty_BadLadder : PySem.W.typeIn K (.ref a_BadLadder) = some (.type "type"))
    (kc_BadLadder : PySem.W.keepIn K (.ref a_BadLadder) = true)
    (ga_BadLadder : PySem.W.findIn K (.ref a_BadLadder) "__getattribute__" = some (some (.builtin "BaseException.__getattribute__")))
    (gg_BadLadder : PySem.W.findIn K (.ref a_BadLadder) "__getattr__" = some none)
    (hd_BadLadder : PySem.W.hasDictIn K a_BadLadder = true)
    (ic_BadLadder : PySem.W.isClsIn K a_BadLadder = true)
    (ss_BadLadder : PySem.W.subIn K (.ref a_BadLadder) (.ref a_BadLadder) = some true)
    (n_BadLadder_rung : PySem.W.findIn K (.ref a_BadLadder) "rung" = some none)
    (g_BadTable : PySem.W.nsIn K mainGlobals "BadTable" = some (some (.ref a_BadTable)))
    (xl_BadTable : K.lookup a_BadTable = some (excClassObj nm_BadTable q_BadTable a_BadTable N_BadTable bs_BadTable bm_BadTable true sn_BadTable sub_BadTable ab_BadTable col_BadTable dd_BadTable k0_BadTable k1_BadTable k2_BadTable k3_BadTable k5_BadTable "ValueError.__new__"))
    (rv_BadTable : PySem.HandSPX.refsVE bm_BadTable = true)
    (sa_BadTable : PySem.W.findIn K (.ref a_BadTable) "__setattr__" = some (some (.builtin "object.__setattr__")))
    (ec_BadTable : PySem.W.subIn K (.ref a_BadTable) (.type "BaseException") = some true)
    (ty_BadTable : PySem.W.typeIn K (.ref a_BadTable) = some (.type "type"))
    (kc_BadTable : PySem.W.keepIn K (.ref a_BadTable) = true)
    (ga_BadTable : PySem.W.findIn K (.ref a_BadTable) "__getattribute__" = some (some (.builtin "BaseException.__getattribute__")))
    (gg_BadTable : PySem.W.findIn K (.ref a_BadTable) "__getattr__" = some none)
    (hd_BadTable : PySem.W.hasDictIn K a_BadTable = true)
    (ic_BadTable : PySem.W.isClsIn K a_BadTable = true)
    (ss_BadTable : PySem.W.subIn K (.ref a_BadTable) (.ref a_BadTable) = some true)
    (n_BadTable_rung : PySem.W.findIn K (.ref a_BadTable) "rung" = some none)
    (g_WinsError : PySem.W.nsIn K mainGlobals "WinsError" = some (some (.ref a_WinsError)))
    (wg_WinsError : PySem.W.specialIn K (.ref a_WinsError) "__getattribute__" = some (some (.builtin "type.__getattribute__")))
    (wr_WinsError : PySem.W.readsIn K a_WinsError (.type "type") = true)
    (wv_WinsError : PySem.W.findCls K (.ref a_WinsError) (.type "type") "__init__" = some (.val (.builtin "ValueError.__init__")))
    (g_TooMany : PySem.W.nsIn K mainGlobals "TooMany" = some (some (.ref a_TooMany)))
    (g_BadDemand : PySem.W.nsIn K mainGlobals "BadDemand" = some (some (.ref a_BadDemand)))
    (g_BadText : PySem.W.nsIn K mainGlobals "BadText" = some (some (.ref a_BadText)))
    (g_BadSeason : PySem.W.nsIn K mainGlobals "BadSeason" = some (some (.ref a_BadSeason)))
    (g_BadCode : PySem.W.nsIn K mainGlobals "BadCode" = some (some (.ref a_BadCode)))
    (g_BadEvent : PySem.W.nsIn K mainGlobals "BadEvent" = some (some (.ref a_BadEvent)))
    (g_BadFoe : PySem.W.nsIn K mainGlobals "BadFoe" = some (some (.ref a_BadFoe)))
    (g_BadPaper : PySem.W.nsIn K mainGlobals "BadPaper" = some (some (.ref a_BadPaper)))
    (g_BadDisk : PySem.W.nsIn K mainGlobals "BadDisk" = some (some (.ref a_BadDisk)))
    (g_BadDeed : PySem.W.nsIn K mainGlobals "BadDeed" = some (some (.ref a_BadDeed)))
    (xc_BadLadder : PySem.W.findIn K (.ref a_BadLadder) "__class__" = some (some (.builtin "object.__class__")))
    (xg_BadLadder : PySem.W.specialIn K (.builtin "object.__class__") "__get__" = some (some (.builtin "getset_descriptor.__get__")))
    (xt_BadLadder : PySem.W.takesIn K (.builtin "object.__class__") = some true)
    (xm_BadLadder : PySem.W.mroIn K a_BadLadder (.type "object") = some true)
    (ki_BadLadder_TooMany : PySem.W.kitOne K (.ref a_BadLadder) (.ref a_TooMany) = some false)
    (ki_BadLadder_BadLadder : PySem.W.kitOne K (.ref a_BadLadder) (.ref a_BadLadder) = some true)
    (ki_BadLadder_BadTable : PySem.W.kitOne K (.ref a_BadLadder) (.ref a_BadTable) = some false)
    (ki_BadLadder_BadDemand : PySem.W.kitOne K (.ref a_BadLadder) (.ref a_BadDemand) = some false)
    (ki_BadLadder_ValueError : PySem.W.kitOne K (.ref a_BadLadder) (.type "ValueError") = some true)
    (ka_BadLadder_0 : PySem.W.kitAny K (.ref a_BadLadder) [.ref a_BadText, .ref a_BadSeason, .ref a_BadCode, .ref a_BadEvent, .ref a_BadFoe, .ref a_BadPaper, .ref a_BadDisk, .ref a_BadDeed] = some false)
    (mm_BadLadder_WinsError : PySem.W.exmOne K (.ref a_BadLadder) (.ref a_WinsError) = some true)
    (xc_BadTable : PySem.W.findIn K (.ref a_BadTable) "__class__" = some (some (.builtin "object.__class__")))
    (xg_BadTable : PySem.W.specialIn K (.builtin "object.__class__") "__get__" = some (some (.builtin "getset_descriptor.__get__")))
    (xt_BadTable : PySem.W.takesIn K (.builtin "object.__class__") = some true)
    (xm_BadTable : PySem.W.mroIn K a_BadTable (.type "object") = some true)
    (ki_BadTable_TooMany : PySem.W.kitOne K (.ref a_BadTable) (.ref a_TooMany) = some false)
    (ki_BadTable_BadLadder : PySem.W.kitOne K (.ref a_BadTable) (.ref a_BadLadder) = some false)
    (ki_BadTable_BadTable : PySem.W.kitOne K (.ref a_BadTable) (.ref a_BadTable) = some true)
    (ki_BadTable_BadDemand : PySem.W.kitOne K (.ref a_BadTable) (.ref a_BadDemand) = some false)
    (ki_BadTable_ValueError : PySem.W.kitOne K (.ref a_BadTable) (.type "ValueError") = some true)
    (ka_BadTable_0 : PySem.W.kitAny K (.ref a_BadTable) [.ref a_BadText, .ref a_BadSeason, .ref a_BadCode, .ref a_BadEvent, .ref a_BadFoe, .ref a_BadPaper, .ref a_BadDisk, .ref a_BadDeed] = some false)
    (mm_BadTable_WinsError : PySem.W.exmOne K (.ref a_BadTable) (.ref a_WinsError) = some true)
    (at_BadLadder_init : PySem.W.findIn K (.ref a_BadLadder) "__init__" = some (some (.ref f_BadLadder_init)))
    (tf_BadLadder_init : PySem.W.typeIn K (.ref f_BadLadder_init) = some (.type "function"))
    (lk_BadLadder_init : K.lookup f_BadLadder_init = some ⟨oc_BadLadder_init, od_BadLadder_init, .func (PySem.W.fnOf "__init__" "BadLadder.__init__" (defArgs st_BadLadder_init) (defBody st_BadLadder_init) (defScope st_BadLadder_init) .none kV_BadLadder_init dc_BadLadder_init pm_BadLadder_init an_BadLadder_init cd_BadLadder_init ct_BadLadder_init), sl_BadLadder_init⟩)
    (co_BadLadder_init : PySem.W.codeIn K cd_BadLadder_init "BadLadder.__init__" = true)
    (kp_BadLadder_init : PySem.W.keepIn K (.ref f_BadLadder_init) = true)
    (at_BadTable_init : PySem.W.findIn K (.ref a_BadTable) "__init__" = some (some (.ref f_BadTable_init)))
    (tf_BadTable_init : PySem.W.typeIn K (.ref f_BadTable_init) = some (.type "function"))
    (lk_BadTable_init : K.lookup f_BadTable_init = some ⟨oc_BadTable_init, od_BadTable_init, .func (PySem.W.fnOf "__init__" "BadTable.__init__" (defArgs st_BadTable_init) (defBody st_BadTable_init) (defScope st_BadTable_init) .none kV_BadTable_init dc_BadTable_init pm_BadTable_init an_BadTable_init cd_BadTable_init ct_BadTable_init), sl_BadTable_init⟩)
    (co_BadTable_init : PySem.W.codeIn K cd_BadTable_init "BadTable.__init__" = true)
    (kp_BadTable_init : PySem.W.keepIn K (.ref f_BadTable_init) = true)
    (at_grown : PySem.W.nsIn K mainGlobals "grown" = some (some (.ref f_grown)))
    (lk_grown : K.lookup f_grown = some ⟨oc_grown, od_grown, .func (PySem.W.fnOf "grown" "grown" (defArgs st_grown) (defBody st_grown) (defScope st_grown) .none kV_grown dc_grown pm_grown an_grown cd_grown ct_grown), sl_grown⟩)
    (co_grown : PySem.W.codeIn K cd_grown "grown" = true)
    (kp_grown : PySem.W.keepIn K (.ref f_grown) = true)
    (at_load_rows : PySem.W.nsIn K mainGlobals "load_rows" = some (some (.ref f_load_rows)))
    (lk_load_rows : K.lookup f_load_rows = some ⟨oc_load_rows, od_load_rows, .func (PySem.W.fnOf "load_rows" "load_rows" (defArgs st_load_rows) (defBody st_load_rows) (defScope st_load_rows) .none kV_load_rows dc_load_rows pm_load_rows an_load_rows cd_load_rows ct_load_rows), sl_load_rows⟩)
    (co_load_rows : PySem.W.codeIn K cd_load_rows "load_rows" = true)
    (kp_load_rows : PySem.W.keepIn K (.ref f_load_rows) = true)
    (at_head_row : PySem.W.nsIn K mainGlobals "head_row" = some (some (.ref f_head_row)))
    (lk_head_row : K.lookup f_head_row = some ⟨oc_head_row, od_head_row, .func (PySem.W.fnOf "head_row" "head_row" (defArgs st_head_row) (defBody st_head_row) (defScope st_head_row) .none kV_head_row dc_head_row pm_head_row an_head_row cd_head_row ct_head_row), sl_head_row⟩)
    (co_head_row : PySem.W.codeIn K cd_head_row "head_row" = true)
    (kp_head_row : PySem.W.keepIn K (.ref f_head_row) = true)
    (at_worth_row : PySem.W.nsIn K mainGlobals "worth_row" = some (some (.ref f_worth_row)))
    (lk_worth_row : K.lookup f_worth_row = some ⟨oc_worth_row, od_worth_row, .func (PySem.W.fnOf "worth_row" "worth_row" (defArgs st_worth_row) (defBody st_worth_row) (defScope st_worth_row) .none kV_worth_row dc_worth_row pm_worth_row an_worth_row cd_worth_row ct_worth_row), sl_worth_row⟩)
    (co_worth_row : PySem.W.codeIn K cd_worth_row "worth_row" = true)
    (kp_worth_row : PySem.W.keepIn K (.ref f_worth_row) = true)
    (at_wrong_count : PySem.W.nsIn K mainGlobals "wrong_count" = some (some (.ref f_wrong_count)))
    (lk_wrong_count : K.lookup f_wrong_count = some ⟨oc_wrong_count, od_wrong_count, .func (PySem.W.fnOf "wrong_count" "wrong_count" (defArgs st_wrong_count) (defBody st_wrong_count) (defScope st_wrong_count) .none kV_wrong_count dc_wrong_count pm_wrong_count an_wrong_count cd_wrong_count ct_wrong_count), sl_wrong_count⟩)
    (co_wrong_count : PySem.W.codeIn K cd_wrong_count "wrong_count" = true)
    (kp_wrong_count : PySem.W.keepIn K (.ref f_wrong_count) = true)
    (at_Table_init : PySem.W.findIn K (.ref a_Table) "__init__" = some (some (.ref f_Table_init)))
    (fn_Table_init : PySem.W.isFn K (.ref f_Table_init) = true)
    (lk_Table_init : K.lookup f_Table_init = some ⟨oc_Table_init, od_Table_init, .func (PySem.W.fnOf "__init__" "Table.__init__" (defArgs st_Table_init) (defBody st_Table_init) (defScope st_Table_init) .none kV_Table_init dc_Table_init pm_Table_init an_Table_init cd_Table_init ct_Table_init), sl_Table_init⟩)
    (co_Table_init : PySem.W.codeIn K cd_Table_init "Table.__init__" = true)
    (kp_Table_init : PySem.W.keepIn K (.ref f_Table_init) = true)
    (at_Table_ladder : PySem.W.findIn K (.ref a_Table) "ladder" = some (some (.ref f_Table_ladder)))
    (fn_Table_ladder : PySem.W.isFn K (.ref f_Table_ladder) = true)
    (lk_Table_ladder : K.lookup f_Table_ladder = some ⟨oc_Table_ladder, od_Table_ladder, .func (PySem.W.fnOf "ladder" "Table.ladder" (defArgs st_Table_ladder) (defBody st_Table_ladder) (defScope st_Table_ladder) .none kV_Table_ladder dc_Table_ladder pm_Table_ladder an_Table_ladder cd_Table_ladder ct_Table_ladder), sl_Table_ladder⟩)
    (co_Table_ladder : PySem.W.codeIn K cd_Table_ladder "Table.ladder" = true)
    (kp_Table_ladder : PySem.W.keepIn K (.ref f_Table_ladder) = true)
    (at_Table_counts : PySem.W.findIn K (.ref a_Table) "counts" = some (some (.ref f_Table_counts)))
    (fn_Table_counts : PySem.W.isFn K (.ref f_Table_counts) = true)
    (lk_Table_counts : K.lookup f_Table_counts = some ⟨oc_Table_counts, od_Table_counts, .func (PySem.W.fnOf "counts" "Table.counts" (defArgs st_Table_counts) (defBody st_Table_counts) (defScope st_Table_counts) .none kV_Table_counts dc_Table_counts pm_Table_counts an_Table_counts cd_Table_counts ct_Table_counts), sl_Table_counts⟩)
    (co_Table_counts : PySem.W.codeIn K cd_Table_counts "Table.counts" = true)
    (kp_Table_counts : PySem.W.keepIn K (.ref f_Table_counts) = true)
    (at_Table_on : PySem.W.findIn K (.ref a_Table) "on" = some (some (.ref f_Table_on)))
    (fn_Table_on : PySem.W.isFn K (.ref f_Table_on) = true)
    (lk_Table_on : K.lookup f_Table_on = some ⟨oc_Table_on, od_Table_on, .func (PySem.W.fnOf "on" "Table.on" (defArgs st_Table_on) (defBody st_Table_on) (defScope st_Table_on) .none kV_Table_on dc_Table_on pm_Table_on an_Table_on cd_Table_on ct_Table_on), sl_Table_on⟩)
    (co_Table_on : PySem.W.codeIn K cd_Table_on "Table.on" = true)
    (kp_Table_on : PySem.W.keepIn K (.ref f_Table_on) = true)
    (at_Table_players : PySem.W.findIn K (.ref a_Table) "players" = some (some (.ref f_Table_players)))
    (fn_Table_players : PySem.W.isFn K (.ref f_Table_players) = true)
    (lk_Table_players : K.lookup f_Table_players = some ⟨oc_Table_players, od_Table_players, .func (PySem.W.fnOf "players" "Table.players" (defArgs st_Table_players) (defBody st_Table_players) (defScope st_Table_players) .none kV_Table_players dc_Table_players pm_Table_players an_Table_players cd_Table_players ct_Table_players), sl_Table_players⟩)
    (co_Table_players : PySem.W.codeIn K cd_Table_players "Table.players" = true)
    (kp_Table_players : PySem.W.keepIn K (.ref f_Table_players) = true)
    (at_Table_above : PySem.W.findIn K (.ref a_Table) "above" = some (some (.ref f_Table_above)))
    (fn_Table_above : PySem.W.isFn K (.ref f_Table_above) = true)
    (lk_Table_above : K.lookup f_Table_above = some ⟨oc_Table_above, od_Table_above, .func (PySem.W.fnOf "above" "Table.above" (defArgs st_Table_above) (defBody st_Table_above) (defScope st_Table_above) .none kV_Table_above dc_Table_above pm_Table_above an_Table_above cd_Table_above ct_Table_above), sl_Table_above⟩)
    (co_Table_above : PySem.W.codeIn K cd_Table_above "Table.above" = true)
    (kp_Table_above : PySem.W.keepIn K (.ref f_Table_above) = true)
    (at_Table_heads : PySem.W.findIn K (.ref a_Table) "heads" = some (some (.ref f_Table_heads)))
    (fn_Table_heads : PySem.W.isFn K (.ref f_Table_heads) = true)
    (lk_Table_heads : K.lookup f_Table_heads = some ⟨oc_Table_heads, od_Table_heads, .func (PySem.W.fnOf "heads" "Table.heads" (defArgs st_Table_heads) (defBody st_Table_heads) (defScope st_Table_heads) .none kV_Table_heads dc_Table_heads pm_Table_heads an_Table_heads cd_Table_heads ct_Table_heads), sl_Table_heads⟩)
    (co_Table_heads : PySem.W.codeIn K cd_Table_heads "Table.heads" = true)
    (kp_Table_heads : PySem.W.keepIn K (.ref f_Table_heads) = true)
    (at_Table_worth : PySem.W.findIn K (.ref a_Table) "worth" = some (some (.ref f_Table_worth)))
    (fn_Table_worth : PySem.W.isFn K (.ref f_Table_worth) = true)
    (lk_Table_worth : K.lookup f_Table_worth = some ⟨oc_Table_worth, od_Table_worth, .func (PySem.W.fnOf "worth" "Table.worth" (defArgs st_Table_worth) (defBody st_Table_worth) (defScope st_Table_worth) .none kV_Table_worth dc_Table_worth pm_Table_worth an_Table_worth cd_Table_worth ct_Table_worth), sl_Table_worth⟩)
    (co_Table_worth : PySem.W.codeIn K cd_Table_worth "Table.worth" = true)
    (kp_Table_worth : PySem.W.keepIn K (.ref f_Table_worth) = true)
    (at_Table_load : PySem.W.findIn K (.ref a_Table) "load" = some (some (.ref f_Table_load)))
    (fn_Table_load : PySem.W.isFn K (.ref f_Table_load) = true)
    (lk_Table_load : K.lookup f_Table_load = some ⟨oc_Table_load, od_Table_load, .func (PySem.W.fnOf "load" "Table.load" (defArgs st_Table_load) (defBody st_Table_load) (defScope st_Table_load) .none kV_Table_load dc_Table_load pm_Table_load an_Table_load cd_Table_load ct_Table_load), sl_Table_load⟩)
    (co_Table_load : PySem.W.codeIn K cd_Table_load "Table.load" = true)
    (kp_Table_load : PySem.W.keepIn K (.ref f_Table_load) = true)
    (at_Table_put : PySem.W.findIn K (.ref a_Table) "put" = some (some (.ref f_Table_put)))
    (fn_Table_put : PySem.W.isFn K (.ref f_Table_put) = true)
    (lk_Table_put : K.lookup f_Table_put = some ⟨oc_Table_put, od_Table_put, .func (PySem.W.fnOf "put" "Table.put" (defArgs st_Table_put) (defBody st_Table_put) (defScope st_Table_put) .none kV_Table_put dc_Table_put pm_Table_put an_Table_put cd_Table_put ct_Table_put), sl_Table_put⟩)
    (co_Table_put : PySem.W.codeIn K cd_Table_put "Table.put" = true)
    (kp_Table_put : PySem.W.keepIn K (.ref f_Table_put) = true)
    (at_Table_take : PySem.W.findIn K (.ref a_Table) "take" = some (some (.ref f_Table_take)))
    (fn_Table_take : PySem.W.isFn K (.ref f_Table_take) = true)
    (lk_Table_take : K.lookup f_Table_take = some ⟨oc_Table_take, od_Table_take, .func (PySem.W.fnOf "take" "Table.take" (defArgs st_Table_take) (defBody st_Table_take) (defScope st_Table_take) .none kV_Table_take dc_Table_take pm_Table_take an_Table_take cd_Table_take ct_Table_take), sl_Table_take⟩)
    (co_Table_take : PySem.W.codeIn K cd_Table_take "Table.take" = true)
    (kp_Table_take : PySem.W.keepIn K (.ref f_Table_take) = true)
    (at_Table_moved : PySem.W.findIn K (.ref a_Table) "moved" = some (some (.ref f_Table_moved)))
    (fn_Table_moved : PySem.W.isFn K (.ref f_Table_moved) = true)
    (lk_Table_moved : K.lookup f_Table_moved = some ⟨oc_Table_moved, od_Table_moved, .func (PySem.W.fnOf "moved" "Table.moved" (defArgs st_Table_moved) (defBody st_Table_moved) (defScope st_Table_moved) .none kV_Table_moved dc_Table_moved pm_Table_moved an_Table_moved cd_Table_moved ct_Table_moved), sl_Table_moved⟩)
    (co_Table_moved : PySem.W.codeIn K cd_Table_moved "Table.moved" = true)
    (kp_Table_moved : PySem.W.keepIn K (.ref f_Table_moved) = true)
    (at_Table_level : PySem.W.findIn K (.ref a_Table) "level" = some (some (.ref f_Table_level)))
    (fn_Table_level : PySem.W.isFn K (.ref f_Table_level) = true)
    (lk_Table_level : K.lookup f_Table_level = some ⟨oc_Table_level, od_Table_level, .func (PySem.W.fnOf "level" "Table.level" (defArgs st_Table_level) (defBody st_Table_level) (defScope st_Table_level) .none kV_Table_level dc_Table_level pm_Table_level an_Table_level cd_Table_level ct_Table_level), sl_Table_level⟩)
    (co_Table_level : PySem.W.codeIn K cd_Table_level "Table.level" = true)
    (kp_Table_level : PySem.W.keepIn K (.ref f_Table_level) = true)
    (at_Table_check_called : PySem.W.findIn K (.ref a_Table) "check_called" = some (some (.ref f_Table_check_called)))
    (fn_Table_check_called : PySem.W.isFn K (.ref f_Table_check_called) = true)
    (lk_Table_check_called : K.lookup f_Table_check_called = some ⟨oc_Table_check_called, od_Table_check_called, .func (PySem.W.fnOf "check_called" "Table.check_called" (defArgs st_Table_check_called) (defBody st_Table_check_called) (defScope st_Table_check_called) .none kV_Table_check_called dc_Table_check_called pm_Table_check_called an_Table_check_called cd_Table_check_called ct_Table_check_called), sl_Table_check_called⟩)
    (co_Table_check_called : PySem.W.codeIn K cd_Table_check_called "Table.check_called" = true)
    (kp_Table_check_called : PySem.W.keepIn K (.ref f_Table_check_called) = true)
    (at_Table_behind : PySem.W.findIn K (.ref a_Table) "behind" = some (some (.ref f_Table_behind)))
    (fn_Table_behind : PySem.W.isFn K (.ref f_Table_behind) = true)
    (lk_Table_behind : K.lookup f_Table_behind = some ⟨oc_Table_behind, od_Table_behind, .func (PySem.W.fnOf "behind" "Table.behind" (defArgs st_Table_behind) (defBody st_Table_behind) (defScope st_Table_behind) .none kV_Table_behind dc_Table_behind pm_Table_behind an_Table_behind cd_Table_behind ct_Table_behind), sl_Table_behind⟩)
    (co_Table_behind : PySem.W.codeIn K cd_Table_behind "Table.behind" = true)
    (kp_Table_behind : PySem.W.keepIn K (.ref f_Table_behind) = true)
    (at_bound : PySem.W.nsIn K mainGlobals "bound" = some (some (.ref f_bound)))
    (lk_bound : K.lookup f_bound = some ⟨oc_bound, od_bound, .func (PySem.W.fnOf "bound" "bound" (defArgs st_bound) (defBody st_bound) (defScope st_bound) .none kV_bound dc_bound pm_bound an_bound cd_bound ct_bound), sl_bound⟩)
    (co_bound : PySem.W.codeIn K cd_bound "bound" = true)
    (kp_bound : PySem.W.keepIn K (.ref f_bound) = true)
    (at_wrong_rung : PySem.W.nsIn K mainGlobals "wrong_rung" = some (some (.ref f_wrong_rung)))
    (lk_wrong_rung : K.lookup f_wrong_rung = some ⟨oc_wrong_rung, od_wrong_rung, .func (PySem.W.fnOf "wrong_rung" "wrong_rung" (defArgs st_wrong_rung) (defBody st_wrong_rung) (defScope st_wrong_rung) .none kV_wrong_rung dc_wrong_rung pm_wrong_rung an_wrong_rung cd_wrong_rung ct_wrong_rung), sl_wrong_rung⟩)
    (co_wrong_rung : PySem.W.codeIn K cd_wrong_rung "wrong_rung" = true)
    (kp_wrong_rung : PySem.W.keepIn K (.ref f_wrong_rung) = true)
    (at_Ladder_init : PySem.W.findIn K (.ref a_Ladder) "__init__" = some (some (.ref f_Ladder_init)))
    (fn_Ladder_init : PySem.W.isFn K (.ref f_Ladder_init) = true)
    (lk_Ladder_init : K.lookup f_Ladder_init = some ⟨oc_Ladder_init, od_Ladder_init, .func (PySem.W.fnOf "__init__" "Ladder.__init__" (defArgs st_Ladder_init) (defBody st_Ladder_init) (defScope st_Ladder_init) .none kV_Ladder_init dc_Ladder_init pm_Ladder_init an_Ladder_init cd_Ladder_init ct_Ladder_init), sl_Ladder_init⟩)
    (co_Ladder_init : PySem.W.codeIn K cd_Ladder_init "Ladder.__init__" = true)
    (kp_Ladder_init : PySem.W.keepIn K (.ref f_Ladder_init) = true)
    (at_Ladder_same_as : PySem.W.findIn K (.ref a_Ladder) "same_as" = some (some (.ref f_Ladder_same_as)))
    (fn_Ladder_same_as : PySem.W.isFn K (.ref f_Ladder_same_as) = true)
    (lk_Ladder_same_as : K.lookup f_Ladder_same_as = some ⟨oc_Ladder_same_as, od_Ladder_same_as, .func (PySem.W.fnOf "same_as" "Ladder.same_as" (defArgs st_Ladder_same_as) (defBody st_Ladder_same_as) (defScope st_Ladder_same_as) .none kV_Ladder_same_as dc_Ladder_same_as pm_Ladder_same_as an_Ladder_same_as cd_Ladder_same_as ct_Ladder_same_as), sl_Ladder_same_as⟩)
    (co_Ladder_same_as : PySem.W.codeIn K cd_Ladder_same_as "Ladder.same_as" = true)
    (kp_Ladder_same_as : PySem.W.keepIn K (.ref f_Ladder_same_as) = true)
    (at_Ladder_lanes : PySem.W.findIn K (.ref a_Ladder) "lanes" = some (some (.ref f_Ladder_lanes)))
    (fn_Ladder_lanes : PySem.W.isFn K (.ref f_Ladder_lanes) = true)
    (lk_Ladder_lanes : K.lookup f_Ladder_lanes = some ⟨oc_Ladder_lanes, od_Ladder_lanes, .func (PySem.W.fnOf "lanes" "Ladder.lanes" (defArgs st_Ladder_lanes) (defBody st_Ladder_lanes) (defScope st_Ladder_lanes) .none kV_Ladder_lanes dc_Ladder_lanes pm_Ladder_lanes an_Ladder_lanes cd_Ladder_lanes ct_Ladder_lanes), sl_Ladder_lanes⟩)
    (co_Ladder_lanes : PySem.W.codeIn K cd_Ladder_lanes "Ladder.lanes" = true)
    (kp_Ladder_lanes : PySem.W.keepIn K (.ref f_Ladder_lanes) = true)
    (at_Ladder_rungs : PySem.W.findIn K (.ref a_Ladder) "rungs" = some (some (.ref f_Ladder_rungs)))
    (fn_Ladder_rungs : PySem.W.isFn K (.ref f_Ladder_rungs) = true)
    (lk_Ladder_rungs : K.lookup f_Ladder_rungs = some ⟨oc_Ladder_rungs, od_Ladder_rungs, .func (PySem.W.fnOf "rungs" "Ladder.rungs" (defArgs st_Ladder_rungs) (defBody st_Ladder_rungs) (defScope st_Ladder_rungs) .none kV_Ladder_rungs dc_Ladder_rungs pm_Ladder_rungs an_Ladder_rungs cd_Ladder_rungs ct_Ladder_rungs), sl_Ladder_rungs⟩)
    (co_Ladder_rungs : PySem.W.codeIn K cd_Ladder_rungs "Ladder.rungs" = true)
    (kp_Ladder_rungs : PySem.W.keepIn K (.ref f_Ladder_rungs) = true)
    (at_Ladder_falls : PySem.W.findIn K (.ref a_Ladder) "falls" = some (some (.ref f_Ladder_falls)))
    (fn_Ladder_falls : PySem.W.isFn K (.ref f_Ladder_falls) = true)
    (lk_Ladder_falls : K.lookup f_Ladder_falls = some ⟨oc_Ladder_falls, od_Ladder_falls, .func (PySem.W.fnOf "falls" "Ladder.falls" (defArgs st_Ladder_falls) (defBody st_Ladder_falls) (defScope st_Ladder_falls) .none kV_Ladder_falls dc_Ladder_falls pm_Ladder_falls an_Ladder_falls cd_Ladder_falls ct_Ladder_falls), sl_Ladder_falls⟩)
    (co_Ladder_falls : PySem.W.codeIn K cd_Ladder_falls "Ladder.falls" = true)
    (kp_Ladder_falls : PySem.W.keepIn K (.ref f_Ladder_falls) = true)
    (at_Ladder_returns : PySem.W.findIn K (.ref a_Ladder) "returns" = some (some (.ref f_Ladder_returns)))
    (fn_Ladder_returns : PySem.W.isFn K (.ref f_Ladder_returns) = true)
    (lk_Ladder_returns : K.lookup f_Ladder_returns = some ⟨oc_Ladder_returns, od_Ladder_returns, .func (PySem.W.fnOf "returns" "Ladder.returns" (defArgs st_Ladder_returns) (defBody st_Ladder_returns) (defScope st_Ladder_returns) .none kV_Ladder_returns dc_Ladder_returns pm_Ladder_returns an_Ladder_returns cd_Ladder_returns ct_Ladder_returns), sl_Ladder_returns⟩)
    (co_Ladder_returns : PySem.W.codeIn K cd_Ladder_returns "Ladder.returns" = true)
    (kp_Ladder_returns : PySem.W.keepIn K (.ref f_Ladder_returns) = true)
    (at_Ladder_check_rung : PySem.W.findIn K (.ref a_Ladder) "check_rung" = some (some (.ref f_Ladder_check_rung)))
    (fn_Ladder_check_rung : PySem.W.isFn K (.ref f_Ladder_check_rung) = true)
    (lk_Ladder_check_rung : K.lookup f_Ladder_check_rung = some ⟨oc_Ladder_check_rung, od_Ladder_check_rung, .func (PySem.W.fnOf "check_rung" "Ladder.check_rung" (defArgs st_Ladder_check_rung) (defBody st_Ladder_check_rung) (defScope st_Ladder_check_rung) .none kV_Ladder_check_rung dc_Ladder_check_rung pm_Ladder_check_rung an_Ladder_check_rung cd_Ladder_check_rung ct_Ladder_check_rung), sl_Ladder_check_rung⟩)
    (co_Ladder_check_rung : PySem.W.codeIn K cd_Ladder_check_rung "Ladder.check_rung" = true)
    (kp_Ladder_check_rung : PySem.W.keepIn K (.ref f_Ladder_check_rung) = true)
    (at_Ladder_check_place : PySem.W.findIn K (.ref a_Ladder) "check_place" = some (some (.ref f_Ladder_check_place)))
    (fn_Ladder_check_place : PySem.W.isFn K (.ref f_Ladder_check_place) = true)
    (lk_Ladder_check_place : K.lookup f_Ladder_check_place = some ⟨oc_Ladder_check_place, od_Ladder_check_place, .func (PySem.W.fnOf "check_place" "Ladder.check_place" (defArgs st_Ladder_check_place) (defBody st_Ladder_check_place) (defScope st_Ladder_check_place) .none kV_Ladder_check_place dc_Ladder_check_place pm_Ladder_check_place an_Ladder_check_place cd_Ladder_check_place ct_Ladder_check_place), sl_Ladder_check_place⟩)
    (co_Ladder_check_place : PySem.W.codeIn K cd_Ladder_check_place "Ladder.check_place" = true)
    (kp_Ladder_check_place : PySem.W.keepIn K (.ref f_Ladder_check_place) = true)
    (at_Ladder_fall : PySem.W.findIn K (.ref a_Ladder) "fall" = some (some (.ref f_Ladder_fall)))
    (fn_Ladder_fall : PySem.W.isFn K (.ref f_Ladder_fall) = true)
    (lk_Ladder_fall : K.lookup f_Ladder_fall = some ⟨oc_Ladder_fall, od_Ladder_fall, .func (PySem.W.fnOf "fall" "Ladder.fall" (defArgs st_Ladder_fall) (defBody st_Ladder_fall) (defScope st_Ladder_fall) .none kV_Ladder_fall dc_Ladder_fall pm_Ladder_fall an_Ladder_fall cd_Ladder_fall ct_Ladder_fall), sl_Ladder_fall⟩)
    (co_Ladder_fall : PySem.W.codeIn K cd_Ladder_fall "Ladder.fall" = true)
    (kp_Ladder_fall : PySem.W.keepIn K (.ref f_Ladder_fall) = true)
    (at_Ladder_load : PySem.W.findIn K (.ref a_Ladder) "load" = some (some (.ref f_Ladder_load)))
    (fn_Ladder_load : PySem.W.isFn K (.ref f_Ladder_load) = true)
    (lk_Ladder_load : K.lookup f_Ladder_load = some ⟨oc_Ladder_load, od_Ladder_load, .func (PySem.W.fnOf "load" "Ladder.load" (defArgs st_Ladder_load) (defBody st_Ladder_load) (defScope st_Ladder_load) .none kV_Ladder_load dc_Ladder_load pm_Ladder_load an_Ladder_load cd_Ladder_load ct_Ladder_load), sl_Ladder_load⟩)
    (co_Ladder_load : PySem.W.codeIn K cd_Ladder_load "Ladder.load" = true)
    (kp_Ladder_load : PySem.W.keepIn K (.ref f_Ladder_load) = true)
    (at_Ladder_heads : PySem.W.findIn K (.ref a_Ladder) "heads" = some (some (.ref f_Ladder_heads)))
    (fn_Ladder_heads : PySem.W.isFn K (.ref f_Ladder_heads) = true)
    (lk_Ladder_heads : K.lookup f_Ladder_heads = some ⟨oc_Ladder_heads, od_Ladder_heads, .func (PySem.W.fnOf "heads" "Ladder.heads" (defArgs st_Ladder_heads) (defBody st_Ladder_heads) (defScope st_Ladder_heads) .none kV_Ladder_heads dc_Ladder_heads pm_Ladder_heads an_Ladder_heads cd_Ladder_heads ct_Ladder_heads), sl_Ladder_heads⟩)
    (co_Ladder_heads : PySem.W.codeIn K cd_Ladder_heads "Ladder.heads" = true)
    (kp_Ladder_heads : PySem.W.keepIn K (.ref f_Ladder_heads) = true)
    (at_Ladder_worth : PySem.W.findIn K (.ref a_Ladder) "worth" = some (some (.ref f_Ladder_worth)))
    (fn_Ladder_worth : PySem.W.isFn K (.ref f_Ladder_worth) = true)
    (lk_Ladder_worth : K.lookup f_Ladder_worth = some ⟨oc_Ladder_worth, od_Ladder_worth, .func (PySem.W.fnOf "worth" "Ladder.worth" (defArgs st_Ladder_worth) (defBody st_Ladder_worth) (defScope st_Ladder_worth) .none kV_Ladder_worth dc_Ladder_worth pm_Ladder_worth an_Ladder_worth cd_Ladder_worth ct_Ladder_worth), sl_Ladder_worth⟩)
    (co_Ladder_worth : PySem.W.codeIn K cd_Ladder_worth "Ladder.worth" = true)
    (kp_Ladder_worth : PySem.W.keepIn K (.ref f_Ladder_worth) = true)
    (at_Ladder_weights : PySem.W.findIn K (.ref a_Ladder) "weights" = some (some (.ref f_Ladder_weights)))
    (fn_Ladder_weights : PySem.W.isFn K (.ref f_Ladder_weights) = true)
    (lk_Ladder_weights : K.lookup f_Ladder_weights = some ⟨oc_Ladder_weights, od_Ladder_weights, .func (PySem.W.fnOf "weights" "Ladder.weights" (defArgs st_Ladder_weights) (defBody st_Ladder_weights) (defScope st_Ladder_weights) .none kV_Ladder_weights dc_Ladder_weights pm_Ladder_weights an_Ladder_weights cd_Ladder_weights ct_Ladder_weights), sl_Ladder_weights⟩)
    (co_Ladder_weights : PySem.W.codeIn K cd_Ladder_weights "Ladder.weights" = true)
    (kp_Ladder_weights : PySem.W.keepIn K (.ref f_Ladder_weights) = true)
    (at_law_e_named : PySem.W.nsIn K mainGlobals "_law_e_named" = some (some (.ref f_law_e_named)))
    (lk_law_e_named : K.lookup f_law_e_named = some ⟨oc_law_e_named, od_law_e_named, .func (PySem.W.fnOf "_law_e_named" "_law_e_named" (defArgs st_law_e_named) (defBody st_law_e_named) (defScope st_law_e_named) .none kV_law_e_named dc_law_e_named pm_law_e_named an_law_e_named cd_law_e_named ct_law_e_named), sl_law_e_named⟩)
    (co_law_e_named : PySem.W.codeIn K cd_law_e_named "_law_e_named" = true)
    (kp_law_e_named : PySem.W.keepIn K (.ref f_law_e_named) = true)
    (at_law_e_asked : PySem.W.nsIn K mainGlobals "_law_e_asked" = some (some (.ref f_law_e_asked)))
    (lk_law_e_asked : K.lookup f_law_e_asked = some ⟨oc_law_e_asked, od_law_e_asked, .func (PySem.W.fnOf "_law_e_asked" "_law_e_asked" (defArgs st_law_e_asked) (defBody st_law_e_asked) (defScope st_law_e_asked) .none kV_law_e_asked dc_law_e_asked pm_law_e_asked an_law_e_asked cd_law_e_asked ct_law_e_asked), sl_law_e_asked⟩)
    (co_law_e_asked : PySem.W.codeIn K cd_law_e_asked "_law_e_asked" = true)
    (kp_law_e_asked : PySem.W.keepIn K (.ref f_law_e_asked) = true)
    (at_law_e_refused : PySem.W.nsIn K mainGlobals "_law_e_refused" = some (some (.ref f_law_e_refused)))
    (lk_law_e_refused : K.lookup f_law_e_refused = some ⟨oc_law_e_refused, od_law_e_refused, .func (PySem.W.fnOf "_law_e_refused" "_law_e_refused" (defArgs st_law_e_refused) (defBody st_law_e_refused) (defScope st_law_e_refused) .none kV_law_e_refused dc_law_e_refused pm_law_e_refused an_law_e_refused cd_law_e_refused ct_law_e_refused), sl_law_e_refused⟩)
    (co_law_e_refused : PySem.W.codeIn K cd_law_e_refused "_law_e_refused" = true)
    (kp_law_e_refused : PySem.W.keepIn K (.ref f_law_e_refused) = true)
    (at_law_e_let : PySem.W.nsIn K mainGlobals "_law_e_let" = some (some (.ref f_law_e_let)))
    (lk_law_e_let : K.lookup f_law_e_let = some ⟨oc_law_e_let, od_law_e_let, .func (PySem.W.fnOf "_law_e_let" "_law_e_let" (defArgs st_law_e_let) (defBody st_law_e_let) (defScope st_law_e_let) .none kV_law_e_let dc_law_e_let pm_law_e_let an_law_e_let cd_law_e_let ct_law_e_let), sl_law_e_let⟩)
    (co_law_e_let : PySem.W.codeIn K cd_law_e_let "_law_e_let" = true)
    (kp_law_e_let : PySem.W.keepIn K (.ref f_law_e_let) = true)
    (at_law_e_falls : PySem.W.nsIn K mainGlobals "_law_e_falls" = some (some (.ref f_law_e_falls)))
    (lk_law_e_falls : K.lookup f_law_e_falls = some ⟨oc_law_e_falls, od_law_e_falls, .func (PySem.W.fnOf "_law_e_falls" "_law_e_falls" (defArgs st_law_e_falls) (defBody st_law_e_falls) (defScope st_law_e_falls) .none kV_law_e_falls dc_law_e_falls pm_law_e_falls an_law_e_falls cd_law_e_falls ct_law_e_falls), sl_law_e_falls⟩)
    (co_law_e_falls : PySem.W.codeIn K cd_law_e_falls "_law_e_falls" = true)
    (kp_law_e_falls : PySem.W.keepIn K (.ref f_law_e_falls) = true)
    (at_law_e_ladder : PySem.W.nsIn K mainGlobals "_law_e_ladder" = some (some (.ref f_law_e_ladder)))
    (lk_law_e_ladder : K.lookup f_law_e_ladder = some ⟨oc_law_e_ladder, od_law_e_ladder, .func (PySem.W.fnOf "_law_e_ladder" "_law_e_ladder" (defArgs st_law_e_ladder) (defBody st_law_e_ladder) (defScope st_law_e_ladder) .none kV_law_e_ladder dc_law_e_ladder pm_law_e_ladder an_law_e_ladder cd_law_e_ladder ct_law_e_ladder), sl_law_e_ladder⟩)
    (co_law_e_ladder : PySem.W.codeIn K cd_law_e_ladder "_law_e_ladder" = true)
    (kp_law_e_ladder : PySem.W.keepIn K (.ref f_law_e_ladder) = true)
    (at_law_e_low : PySem.W.nsIn K mainGlobals "_law_e_low" = some (some (.ref f_law_e_low)))
    (lk_law_e_low : K.lookup f_law_e_low = some ⟨oc_law_e_low, od_law_e_low, .func (PySem.W.fnOf "_law_e_low" "_law_e_low" (defArgs st_law_e_low) (defBody st_law_e_low) (defScope st_law_e_low) .none kV_law_e_low dc_law_e_low pm_law_e_low an_law_e_low cd_law_e_low ct_law_e_low), sl_law_e_low⟩)
    (co_law_e_low : PySem.W.codeIn K cd_law_e_low "_law_e_low" = true)
    (kp_law_e_low : PySem.W.keepIn K (.ref f_law_e_low) = true)
    (at_law_e_loads : PySem.W.nsIn K mainGlobals "_law_e_loads" = some (some (.ref f_law_e_loads)))
    (lk_law_e_loads : K.lookup f_law_e_loads = some ⟨oc_law_e_loads, od_law_e_loads, .func (PySem.W.fnOf "_law_e_loads" "_law_e_loads" (defArgs st_law_e_loads) (defBody st_law_e_loads) (defScope st_law_e_loads) .none kV_law_e_loads dc_law_e_loads pm_law_e_loads an_law_e_loads cd_law_e_loads ct_law_e_loads), sl_law_e_loads⟩)
    (co_law_e_loads : PySem.W.codeIn K cd_law_e_loads "_law_e_loads" = true)
    (kp_law_e_loads : PySem.W.keepIn K (.ref f_law_e_loads) = true)
    (at_law_e_heads : PySem.W.nsIn K mainGlobals "_law_e_heads" = some (some (.ref f_law_e_heads)))
    (lk_law_e_heads : K.lookup f_law_e_heads = some ⟨oc_law_e_heads, od_law_e_heads, .func (PySem.W.fnOf "_law_e_heads" "_law_e_heads" (defArgs st_law_e_heads) (defBody st_law_e_heads) (defScope st_law_e_heads) .none kV_law_e_heads dc_law_e_heads pm_law_e_heads an_law_e_heads cd_law_e_heads ct_law_e_heads), sl_law_e_heads⟩)
    (co_law_e_heads : PySem.W.codeIn K cd_law_e_heads "_law_e_heads" = true)
    (kp_law_e_heads : PySem.W.keepIn K (.ref f_law_e_heads) = true)
    (at_law_e_worths : PySem.W.nsIn K mainGlobals "_law_e_worths" = some (some (.ref f_law_e_worths)))
    (lk_law_e_worths : K.lookup f_law_e_worths = some ⟨oc_law_e_worths, od_law_e_worths, .func (PySem.W.fnOf "_law_e_worths" "_law_e_worths" (defArgs st_law_e_worths) (defBody st_law_e_worths) (defScope st_law_e_worths) .none kV_law_e_worths dc_law_e_worths pm_law_e_worths an_law_e_worths cd_law_e_worths ct_law_e_worths), sl_law_e_worths⟩)
    (co_law_e_worths : PySem.W.codeIn K cd_law_e_worths "_law_e_worths" = true)
    (kp_law_e_worths : PySem.W.keepIn K (.ref f_law_e_worths) = true)
    (at_law_e_sum : PySem.W.nsIn K mainGlobals "_law_e_sum" = some (some (.ref f_law_e_sum)))
    (lk_law_e_sum : K.lookup f_law_e_sum = some ⟨oc_law_e_sum, od_law_e_sum, .func (PySem.W.fnOf "_law_e_sum" "_law_e_sum" (defArgs st_law_e_sum) (defBody st_law_e_sum) (defScope st_law_e_sum) .none kV_law_e_sum dc_law_e_sum pm_law_e_sum an_law_e_sum cd_law_e_sum ct_law_e_sum), sl_law_e_sum⟩)
    (co_law_e_sum : PySem.W.codeIn K cd_law_e_sum "_law_e_sum" = true)
    (kp_law_e_sum : PySem.W.keepIn K (.ref f_law_e_sum) = true)
    (at_law_e_behind : PySem.W.nsIn K mainGlobals "_law_e_behind" = some (some (.ref f_law_e_behind)))
    (lk_law_e_behind : K.lookup f_law_e_behind = some ⟨oc_law_e_behind, od_law_e_behind, .func (PySem.W.fnOf "_law_e_behind" "_law_e_behind" (defArgs st_law_e_behind) (defBody st_law_e_behind) (defScope st_law_e_behind) .none kV_law_e_behind dc_law_e_behind pm_law_e_behind an_law_e_behind cd_law_e_behind ct_law_e_behind), sl_law_e_behind⟩)
    (co_law_e_behind : PySem.W.codeIn K cd_law_e_behind "_law_e_behind" = true)
    (kp_law_e_behind : PySem.W.keepIn K (.ref f_law_e_behind) = true)
    (at_law_stock : PySem.W.nsIn K mainGlobals "_law_stock" = some (some (.ref f_law_stock)))
    (lk_law_stock : K.lookup f_law_stock = some ⟨oc_law_stock, od_law_stock, .func (PySem.W.fnOf "_law_stock" "_law_stock" (defArgs st_law_stock) (defBody st_law_stock) (defScope st_law_stock) .none kV_law_stock dc_law_stock pm_law_stock an_law_stock cd_law_stock ct_law_stock), sl_law_stock⟩)
    (co_law_stock : PySem.W.codeIn K cd_law_stock "_law_stock" = true)
    (kp_law_stock : PySem.W.keepIn K (.ref f_law_stock) = true)
    (at_law_draw : PySem.W.nsIn K mainGlobals "_law_draw" = some (some (.ref f_law_draw)))
    (lk_law_draw : K.lookup f_law_draw = some ⟨oc_law_draw, od_law_draw, .func (PySem.W.fnOf "_law_draw" "_law_draw" (defArgs st_law_draw) (defBody st_law_draw) (defScope st_law_draw) .none kV_law_draw dc_law_draw pm_law_draw an_law_draw cd_law_draw ct_law_draw), sl_law_draw⟩)
    (co_law_draw : PySem.W.codeIn K cd_law_draw "_law_draw" = true)
    (kp_law_draw : PySem.W.keepIn K (.ref f_law_draw) = true)
    (at_law_matches : PySem.W.nsIn K mainGlobals "_law_matches" = some (some (.ref f_law_matches)))
    (lk_law_matches : K.lookup f_law_matches = some ⟨oc_law_matches, od_law_matches, .func (PySem.W.fnOf "_law_matches" "_law_matches" (defArgs st_law_matches) (defBody st_law_matches) (defScope st_law_matches) .none kV_law_matches dc_law_matches pm_law_matches an_law_matches cd_law_matches ct_law_matches), sl_law_matches⟩)
    (co_law_matches : PySem.W.codeIn K cd_law_matches "_law_matches" = true)
    (kp_law_matches : PySem.W.keepIn K (.ref f_law_matches) = true)
    (at_law_k25_counts : PySem.W.nsIn K mainGlobals "_law_k25_counts" = some (some (.ref f_law_k25_counts)))
    (lk_law_k25_counts : K.lookup f_law_k25_counts = some ⟨oc_law_k25_counts, od_law_k25_counts, .func (PySem.W.fnOf "_law_k25_counts" "_law_k25_counts" (defArgs st_law_k25_counts) (defBody st_law_k25_counts) (defScope st_law_k25_counts) .none kV_law_k25_counts dc_law_k25_counts pm_law_k25_counts an_law_k25_counts cd_law_k25_counts ct_law_k25_counts), sl_law_k25_counts⟩)
    (co_law_k25_counts : PySem.W.codeIn K cd_law_k25_counts "_law_k25_counts" = true)
    (kp_law_k25_counts : PySem.W.keepIn K (.ref f_law_k25_counts) = true)
    (at_law_k25_tellers : PySem.W.nsIn K mainGlobals "_law_k25_tellers" = some (some (.ref f_law_k25_tellers)))
    (lk_law_k25_tellers : K.lookup f_law_k25_tellers = some ⟨oc_law_k25_tellers, od_law_k25_tellers, .func (PySem.W.fnOf "_law_k25_tellers" "_law_k25_tellers" (defArgs st_law_k25_tellers) (defBody st_law_k25_tellers) (defScope st_law_k25_tellers) .none kV_law_k25_tellers dc_law_k25_tellers pm_law_k25_tellers an_law_k25_tellers cd_law_k25_tellers ct_law_k25_tellers), sl_law_k25_tellers⟩)
    (co_law_k25_tellers : PySem.W.codeIn K cd_law_k25_tellers "_law_k25_tellers" = true)
    (kp_law_k25_tellers : PySem.W.keepIn K (.ref f_law_k25_tellers) = true)
    (at_law_k25_called : PySem.W.nsIn K mainGlobals "_law_k25_called" = some (some (.ref f_law_k25_called)))
    (lk_law_k25_called : K.lookup f_law_k25_called = some ⟨oc_law_k25_called, od_law_k25_called, .func (PySem.W.fnOf "_law_k25_called" "_law_k25_called" (defArgs st_law_k25_called) (defBody st_law_k25_called) (defScope st_law_k25_called) .none kV_law_k25_called dc_law_k25_called pm_law_k25_called an_law_k25_called cd_law_k25_called ct_law_k25_called), sl_law_k25_called⟩)
    (co_law_k25_called : PySem.W.codeIn K cd_law_k25_called "_law_k25_called" = true)
    (kp_law_k25_called : PySem.W.keepIn K (.ref f_law_k25_called) = true)
    (at_law_k25_meetings : PySem.W.nsIn K mainGlobals "_law_k25_meetings" = some (some (.ref f_law_k25_meetings)))
    (lk_law_k25_meetings : K.lookup f_law_k25_meetings = some ⟨oc_law_k25_meetings, od_law_k25_meetings, .func (PySem.W.fnOf "_law_k25_meetings" "_law_k25_meetings" (defArgs st_law_k25_meetings) (defBody st_law_k25_meetings) (defScope st_law_k25_meetings) .none kV_law_k25_meetings dc_law_k25_meetings pm_law_k25_meetings an_law_k25_meetings cd_law_k25_meetings ct_law_k25_meetings), sl_law_k25_meetings⟩)
    (co_law_k25_meetings : PySem.W.codeIn K cd_law_k25_meetings "_law_k25_meetings" = true)
    (kp_law_k25_meetings : PySem.W.keepIn K (.ref f_law_k25_meetings) = true)
    (at_law_k25_fault : PySem.W.nsIn K mainGlobals "_law_k25_fault" = some (some (.ref f_law_k25_fault)))
    (lk_law_k25_fault : K.lookup f_law_k25_fault = some ⟨oc_law_k25_fault, od_law_k25_fault, .func (PySem.W.fnOf "_law_k25_fault" "_law_k25_fault" (defArgs st_law_k25_fault) (defBody st_law_k25_fault) (defScope st_law_k25_fault) .none kV_law_k25_fault dc_law_k25_fault pm_law_k25_fault an_law_k25_fault cd_law_k25_fault ct_law_k25_fault), sl_law_k25_fault⟩)
    (co_law_k25_fault : PySem.W.codeIn K cd_law_k25_fault "_law_k25_fault" = true)
    (kp_law_k25_fault : PySem.W.keepIn K (.ref f_law_k25_fault) = true)
    (at_law_k25_bent : PySem.W.nsIn K mainGlobals "_law_k25_bent" = some (some (.ref f_law_k25_bent)))
    (lk_law_k25_bent : K.lookup f_law_k25_bent = some ⟨oc_law_k25_bent, od_law_k25_bent, .func (PySem.W.fnOf "_law_k25_bent" "_law_k25_bent" (defArgs st_law_k25_bent) (defBody st_law_k25_bent) (defScope st_law_k25_bent) .none kV_law_k25_bent dc_law_k25_bent pm_law_k25_bent an_law_k25_bent (.ref c_law_k25_bent) ct_law_k25_bent), sl_law_k25_bent⟩)
    (co_law_k25_bent : PySem.W.codeIn K (.ref c_law_k25_bent) "_law_k25_bent" = true)
    (kp_law_k25_bent : PySem.W.keepIn K (.ref f_law_k25_bent) = true)
    (vc_law_k25_bent : K.lookup c_law_k25_bent = some ⟨.type "code", vo_law_k25_bent, .fields vs_law_k25_bent, vl_law_k25_bent⟩)
    (v11_law_k25_bent : (vs_law_k25_bent[11]? : Option Value) = some (.ref p_law_k25_bent))
    (hc_law_k25_bent : PySem.W.codeHdIn K c_law_k25_bent p_law_k25_bent = true)
    (nT_law_k25_bent : K.lookup p_law_k25_bent = none)
    (tb_law_k25_bent : h.get? p_law_k25_bent = some { cls := .none, data := .fields #[] })
    (at_law_k25_moves : PySem.W.nsIn K mainGlobals "_law_k25_moves" = some (some (.ref f_law_k25_moves)))
    (lk_law_k25_moves : K.lookup f_law_k25_moves = some ⟨oc_law_k25_moves, od_law_k25_moves, .func (PySem.W.fnOf "_law_k25_moves" "_law_k25_moves" (defArgs st_law_k25_moves) (defBody st_law_k25_moves) (defScope st_law_k25_moves) .none kV_law_k25_moves dc_law_k25_moves pm_law_k25_moves an_law_k25_moves (.ref c_law_k25_moves) ct_law_k25_moves), sl_law_k25_moves⟩)
    (co_law_k25_moves : PySem.W.codeIn K (.ref c_law_k25_moves) "_law_k25_moves" = true)
    (kp_law_k25_moves : PySem.W.keepIn K (.ref f_law_k25_moves) = true)
    (vc_law_k25_moves : K.lookup c_law_k25_moves = some ⟨.type "code", vo_law_k25_moves, .fields vs_law_k25_moves, vl_law_k25_moves⟩)
    (v11_law_k25_moves : (vs_law_k25_moves[11]? : Option Value) = some (.ref p_law_k25_moves))
    (hc_law_k25_moves : PySem.W.codeHdIn K c_law_k25_moves p_law_k25_moves = true)
    (nT_law_k25_moves : K.lookup p_law_k25_moves = none)
    (tb_law_k25_moves : h.get? p_law_k25_moves = some { cls := .none, data := .fields #[] })
    (at_law_k25_rungs_refused : PySem.W.nsIn K mainGlobals "_law_k25_rungs_refused" = some (some (.ref f_law_k25_rungs_refused)))
    (lk_law_k25_rungs_refused : K.lookup f_law_k25_rungs_refused = some ⟨oc_law_k25_rungs_refused, od_law_k25_rungs_refused, .func (PySem.W.fnOf "_law_k25_rungs_refused" "_law_k25_rungs_refused" (defArgs st_law_k25_rungs_refused) (defBody st_law_k25_rungs_refused) (defScope st_law_k25_rungs_refused) .none kV_law_k25_rungs_refused dc_law_k25_rungs_refused pm_law_k25_rungs_refused an_law_k25_rungs_refused (.ref c_law_k25_rungs_refused) ct_law_k25_rungs_refused), sl_law_k25_rungs_refused⟩)
    (co_law_k25_rungs_refused : PySem.W.codeIn K (.ref c_law_k25_rungs_refused) "_law_k25_rungs_refused" = true)
    (kp_law_k25_rungs_refused : PySem.W.keepIn K (.ref f_law_k25_rungs_refused) = true)
    (vc_law_k25_rungs_refused : K.lookup c_law_k25_rungs_refused = some ⟨.type "code", vo_law_k25_rungs_refused, .fields vs_law_k25_rungs_refused, vl_law_k25_rungs_refused⟩)
    (v11_law_k25_rungs_refused : (vs_law_k25_rungs_refused[11]? : Option Value) = some (.ref p_law_k25_rungs_refused))
    (hc_law_k25_rungs_refused : PySem.W.codeHdIn K c_law_k25_rungs_refused p_law_k25_rungs_refused = true)
    (nT_law_k25_rungs_refused : K.lookup p_law_k25_rungs_refused = none)
    (tb_law_k25_rungs_refused : h.get? p_law_k25_rungs_refused = some { cls := .none, data := .fields #[] })
    (at_law : PySem.W.nsIn K mainGlobals "law" = some (some (.ref f_law)))
    (lk_law : K.lookup f_law = some ⟨oc_law, od_law, .func (PySem.W.fnOf "law" "law" (defArgs st_law) (defBody st_law) (defScope st_law) .none kV_law dc_law pm_law an_law cd_law ct_law), sl_law⟩)
    (co_law : PySem.W.codeIn K cd_law "law" = true)
    (kp_law : PySem.W.keepIn K (.ref f_law) = true)
    (ne_law_k25_moves_law_k25_bent : p_law_k25_moves ≠ p_law_k25_bent)
    (ne_law_k25_rungs_refused_law_k25_bent : p_law_k25_rungs_refused ≠ p_law_k25_bent)
    (ne_law_k25_rungs_refused_law_k25_moves : p_law_k25_rungs_refused ≠ p_law_k25_moves) :
    LamX.LawAtS l w K CX0 13 63 "script" mg fa h := by
  have e := hfa.symm.trans (PySem.W.mg_of X G at_law)
  cases e
  have F_BadLadder_init := fun_mk (st := st_BadLadder_init) lk_BadLadder_init co_BadLadder_init kp_BadLadder_init
  have B_BadLadder_init := F_BadLadder_init.binds (ps := ["self", "rung"]) fun _ _ _ _ _ _ us hl => match us, hl with | [_, _], _ => rfl
  have F_BadTable_init := fun_mk (st := st_BadTable_init) lk_BadTable_init co_BadTable_init kp_BadTable_init
  have B_BadTable_init := F_BadTable_init.binds (ps := ["self", "rung"]) fun _ _ _ _ _ _ us hl => match us, hl with | [_, _], _ => rfl
  have F_grown := fun_mk (st := st_grown) lk_grown co_grown kp_grown
  have B_grown := F_grown.binds (ps := ["lanes", "falls", "first", "charges"]) fun _ _ _ _ _ _ us hl => match us, hl with | [_, _, _, _], _ => rfl
  have F_load_rows := fun_mk (st := st_load_rows) lk_load_rows co_load_rows kp_load_rows
  have B_load_rows := F_load_rows.binds (ps := ["lanes", "falls"]) fun _ _ _ _ _ _ us hl => match us, hl with | [_, _], _ => rfl
  have F_head_row := fun_mk (st := st_head_row) lk_head_row co_head_row kp_head_row
  have B_head_row := F_head_row.binds (ps := ["lanes", "falls"]) fun _ _ _ _ _ _ us hl => match us, hl with | [_, _], _ => rfl
  have F_worth_row := fun_mk (st := st_worth_row) lk_worth_row co_worth_row kp_worth_row
  have B_worth_row := F_worth_row.binds (ps := ["lanes", "falls"]) fun _ _ _ _ _ _ us hl => match us, hl with | [_, _], _ => rfl
  have F_wrong_count := fun_mk (st := st_wrong_count) lk_wrong_count co_wrong_count kp_wrong_count
  have B_wrong_count := F_wrong_count.binds (ps := ["counts", "rungs"]) fun _ _ _ _ _ _ us hl => match us, hl with | [_, _], _ => rfl
  have F_Table_init := fun_mk (st := st_Table_init) lk_Table_init co_Table_init kp_Table_init
  have B_Table_init := F_Table_init.binds (ps := ["self", "ladder", "counts"]) fun _ _ _ _ _ _ us hl => match us, hl with | [_, _, _], _ => rfl
  have F_Table_ladder := fun_mk (st := st_Table_ladder) lk_Table_ladder co_Table_ladder kp_Table_ladder
  have B_Table_ladder := F_Table_ladder.binds (ps := ["self"]) fun _ _ _ _ _ _ us hl => match us, hl with | [_], _ => rfl
  have F_Table_counts := fun_mk (st := st_Table_counts) lk_Table_counts co_Table_counts kp_Table_counts
  have B_Table_counts := F_Table_counts.binds (ps := ["self"]) fun _ _ _ _ _ _ us hl => match us, hl with | [_], _ => rfl
  have F_Table_on := fun_mk (st := st_Table_on) lk_Table_on co_Table_on kp_Table_on
  have B_Table_on := F_Table_on.binds (ps := ["self", "a"]) fun _ _ _ _ _ _ us hl => match us, hl with | [_, _], _ => rfl
  have F_Table_players := fun_mk (st := st_Table_players) lk_Table_players co_Table_players kp_Table_players
  have B_Table_players := F_Table_players.binds (ps := ["self"]) fun _ _ _ _ _ _ us hl => match us, hl with | [_], _ => rfl
  have F_Table_above := fun_mk (st := st_Table_above) lk_Table_above co_Table_above kp_Table_above
  have B_Table_above := F_Table_above.binds (ps := ["self", "a"]) fun _ _ _ _ _ _ us hl => match us, hl with | [_, _], _ => rfl
  have F_Table_heads := fun_mk (st := st_Table_heads) lk_Table_heads co_Table_heads kp_Table_heads
  have B_Table_heads := F_Table_heads.binds (ps := ["self"]) fun _ _ _ _ _ _ us hl => match us, hl with | [_], _ => rfl
  have F_Table_worth := fun_mk (st := st_Table_worth) lk_Table_worth co_Table_worth kp_Table_worth
  have B_Table_worth := F_Table_worth.binds (ps := ["self"]) fun _ _ _ _ _ _ us hl => match us, hl with | [_], _ => rfl
  have F_Table_load := fun_mk (st := st_Table_load) lk_Table_load co_Table_load kp_Table_load
  have B_Table_load := F_Table_load.binds (ps := ["self", "a"]) fun _ _ _ _ _ _ us hl => match us, hl with | [_, _], _ => rfl
  have F_Table_put := fun_mk (st := st_Table_put) lk_Table_put co_Table_put kp_Table_put
  have B_Table_put := F_Table_put.binds (ps := ["self", "a", "many"]) fun _ _ _ _ _ _ us hl => match us, hl with | [_, _, _], _ => rfl
  have F_Table_take := fun_mk (st := st_Table_take) lk_Table_take co_Table_take kp_Table_take
  have B_Table_take := F_Table_take.binds (ps := ["self", "a", "many"]) fun _ _ _ _ _ _ us hl => match us, hl with | [_, _, _], _ => rfl
  have F_Table_moved := fun_mk (st := st_Table_moved) lk_Table_moved co_Table_moved kp_Table_moved
  have B_Table_moved := F_Table_moved.binds (ps := ["self", "a", "many"]) fun _ _ _ _ _ _ us hl => match us, hl with | [_, _, _], _ => rfl
  have F_Table_level := fun_mk (st := st_Table_level) lk_Table_level co_Table_level kp_Table_level
  have B_Table_level := F_Table_level.binds (ps := ["self"]) fun _ _ _ _ _ _ us hl => match us, hl with | [_], _ => rfl
  have F_Table_check_called := fun_mk (st := st_Table_check_called) lk_Table_check_called co_Table_check_called kp_Table_check_called
  have B_Table_check_called := F_Table_check_called.binds (ps := ["self", "rungs", "at"]) fun _ _ _ _ _ _ us hl => match us, hl with | [_, _, _], _ => rfl
  have F_Table_behind := fun_mk (st := st_Table_behind) lk_Table_behind co_Table_behind kp_Table_behind
  have B_Table_behind := F_Table_behind.binds (ps := ["self", "rungs", "at"]) fun _ _ _ _ _ _ us hl => match us, hl with | [_, _, _], _ => rfl
  have F_bound := fun_mk (st := st_bound) lk_bound co_bound kp_bound
  have B_bound := F_bound.binds (ps := ["what", "number"]) fun _ _ _ _ _ _ us hl => match us, hl with | [_, _], _ => rfl
  have F_wrong_rung := fun_mk (st := st_wrong_rung) lk_wrong_rung co_wrong_rung kp_wrong_rung
  have B_wrong_rung := F_wrong_rung.binds (ps := ["lanes", "falls"]) fun _ _ _ _ _ _ us hl => match us, hl with | [_, _], _ => rfl
  have F_Ladder_init := fun_mk (st := st_Ladder_init) lk_Ladder_init co_Ladder_init kp_Ladder_init
  have B_Ladder_init := F_Ladder_init.binds (ps := ["self", "lanes", "falls", "returns"]) fun _ _ _ _ _ _ us hl => match us, hl with | [_, _, _, _], _ => rfl
  have F_Ladder_same_as := fun_mk (st := st_Ladder_same_as) lk_Ladder_same_as co_Ladder_same_as kp_Ladder_same_as
  have B_Ladder_same_as := F_Ladder_same_as.binds (ps := ["self", "other"]) fun _ _ _ _ _ _ us hl => match us, hl with | [_, _], _ => rfl
  have F_Ladder_lanes := fun_mk (st := st_Ladder_lanes) lk_Ladder_lanes co_Ladder_lanes kp_Ladder_lanes
  have B_Ladder_lanes := F_Ladder_lanes.binds (ps := ["self"]) fun _ _ _ _ _ _ us hl => match us, hl with | [_], _ => rfl
  have F_Ladder_rungs := fun_mk (st := st_Ladder_rungs) lk_Ladder_rungs co_Ladder_rungs kp_Ladder_rungs
  have B_Ladder_rungs := F_Ladder_rungs.binds (ps := ["self"]) fun _ _ _ _ _ _ us hl => match us, hl with | [_], _ => rfl
  have F_Ladder_falls := fun_mk (st := st_Ladder_falls) lk_Ladder_falls co_Ladder_falls kp_Ladder_falls
  have B_Ladder_falls := F_Ladder_falls.binds (ps := ["self"]) fun _ _ _ _ _ _ us hl => match us, hl with | [_], _ => rfl
  have F_Ladder_returns := fun_mk (st := st_Ladder_returns) lk_Ladder_returns co_Ladder_returns kp_Ladder_returns
  have B_Ladder_returns := F_Ladder_returns.binds (ps := ["self"]) fun _ _ _ _ _ _ us hl => match us, hl with | [_], _ => rfl
  have F_Ladder_check_rung := fun_mk (st := st_Ladder_check_rung) lk_Ladder_check_rung co_Ladder_check_rung kp_Ladder_check_rung
  have B_Ladder_check_rung := F_Ladder_check_rung.binds (ps := ["self", "rung"]) fun _ _ _ _ _ _ us hl => match us, hl with | [_, _], _ => rfl
  have F_Ladder_check_place := fun_mk (st := st_Ladder_check_place) lk_Ladder_check_place co_Ladder_check_place kp_Ladder_check_place
  have B_Ladder_check_place := F_Ladder_check_place.binds (ps := ["self", "place"]) fun _ _ _ _ _ _ us hl => match us, hl with | [_, _], _ => rfl
  have F_Ladder_fall := fun_mk (st := st_Ladder_fall) lk_Ladder_fall co_Ladder_fall kp_Ladder_fall
  have B_Ladder_fall := F_Ladder_fall.binds (ps := ["self", "a"]) fun _ _ _ _ _ _ us hl => match us, hl with | [_, _], _ => rfl
  have F_Ladder_load := fun_mk (st := st_Ladder_load) lk_Ladder_load co_Ladder_load kp_Ladder_load
  have B_Ladder_load := F_Ladder_load.binds (ps := ["self", "a", "b"]) fun _ _ _ _ _ _ us hl => match us, hl with | [_, _, _], _ => rfl
  have F_Ladder_heads := fun_mk (st := st_Ladder_heads) lk_Ladder_heads co_Ladder_heads kp_Ladder_heads
  have B_Ladder_heads := F_Ladder_heads.binds (ps := ["self", "b"]) fun _ _ _ _ _ _ us hl => match us, hl with | [_, _], _ => rfl
  have F_Ladder_worth := fun_mk (st := st_Ladder_worth) lk_Ladder_worth co_Ladder_worth kp_Ladder_worth
  have B_Ladder_worth := F_Ladder_worth.binds (ps := ["self", "b"]) fun _ _ _ _ _ _ us hl => match us, hl with | [_, _], _ => rfl
  have F_Ladder_weights := fun_mk (st := st_Ladder_weights) lk_Ladder_weights co_Ladder_weights kp_Ladder_weights
  have B_Ladder_weights := F_Ladder_weights.binds (ps := ["self"]) fun _ _ _ _ _ _ us hl => match us, hl with | [_], _ => rfl
  have F_law_e_named := fun_mk (st := st_law_e_named) lk_law_e_named co_law_e_named kp_law_e_named
  have B_law_e_named := F_law_e_named.binds (ps := ["raised"]) fun _ _ _ _ _ _ us hl => match us, hl with | [_], _ => rfl
  have F_law_e_asked := fun_mk (st := st_law_e_asked) lk_law_e_asked co_law_e_asked kp_law_e_asked
  have B_law_e_asked := F_law_e_asked.binds (ps := ["call"]) fun _ _ _ _ _ _ us hl => match us, hl with | [_], _ => rfl
  have F_law_e_refused := fun_mk (st := st_law_e_refused) lk_law_e_refused co_law_e_refused kp_law_e_refused
  have B_law_e_refused := F_law_e_refused.binds (ps := ["call", "due"]) fun _ _ _ _ _ _ us hl => match us, hl with | [_, _], _ => rfl
  have F_law_e_let := fun_mk (st := st_law_e_let) lk_law_e_let co_law_e_let kp_law_e_let
  have B_law_e_let := F_law_e_let.binds (ps := ["call"]) fun _ _ _ _ _ _ us hl => match us, hl with | [_], _ => rfl
  have F_law_e_falls := fun_mk (st := st_law_e_falls) lk_law_e_falls co_law_e_falls kp_law_e_falls
  have B_law_e_falls := F_law_e_falls.binds (ps := ["stock", "rungs"]) fun _ _ _ _ _ _ us hl => match us, hl with | [_, _], _ => rfl
  have F_law_e_ladder := fun_mk (st := st_law_e_ladder) lk_law_e_ladder co_law_e_ladder kp_law_e_ladder
  have B_law_e_ladder := F_law_e_ladder.binds (ps := ["stock", "least", "most", "widest"]) fun _ _ _ _ _ _ us hl => match us, hl with | [_, _, _, _], _ => rfl
  have F_law_e_low := fun_mk (st := st_law_e_low) lk_law_e_low co_law_e_low kp_law_e_low
  have B_law_e_low := F_law_e_low.binds (ps := ["row", "fall"]) fun _ _ _ _ _ _ us hl => match us, hl with | [_, _], _ => rfl
  have F_law_e_loads := fun_mk (st := st_law_e_loads) lk_law_e_loads co_law_e_loads kp_law_e_loads
  have B_law_e_loads := F_law_e_loads.binds (ps := ["ladder"]) fun _ _ _ _ _ _ us hl => match us, hl with | [_], _ => rfl
  have F_law_e_heads := fun_mk (st := st_law_e_heads) lk_law_e_heads co_law_e_heads kp_law_e_heads
  have B_law_e_heads := F_law_e_heads.binds (ps := ["ladder"]) fun _ _ _ _ _ _ us hl => match us, hl with | [_], _ => rfl
  have F_law_e_worths := fun_mk (st := st_law_e_worths) lk_law_e_worths co_law_e_worths kp_law_e_worths
  have B_law_e_worths := F_law_e_worths.binds (ps := ["ladder"]) fun _ _ _ _ _ _ us hl => match us, hl with | [_], _ => rfl
  have F_law_e_sum := fun_mk (st := st_law_e_sum) lk_law_e_sum co_law_e_sum kp_law_e_sum
  have B_law_e_sum := F_law_e_sum.binds (ps := ["row", "counts"]) fun _ _ _ _ _ _ us hl => match us, hl with | [_, _], _ => rfl
  have F_law_e_behind := fun_mk (st := st_law_e_behind) lk_law_e_behind co_law_e_behind kp_law_e_behind
  have B_law_e_behind := F_law_e_behind.binds (ps := ["ladder", "counts", "rungs", "at"]) fun _ _ _ _ _ _ us hl => match us, hl with | [_, _, _, _], _ => rfl
  have F_law_stock := fun_mk (st := st_law_stock) lk_law_stock co_law_stock kp_law_stock
  have B_law_stock := F_law_stock.binds (ps := ["script", "at"]) fun _ _ _ _ _ _ us hl => match us, hl with | [_, _], _ => rfl
  have F_law_draw := fun_mk (st := st_law_draw) lk_law_draw co_law_draw kp_law_draw
  have B_law_draw := F_law_draw.binds (ps := ["stock", "many"]) fun _ _ _ _ _ _ us hl => match us, hl with | [_, _], _ => rfl
  have F_law_matches := fun_mk (st := st_law_matches) lk_law_matches co_law_matches kp_law_matches
  have B_law_matches := F_law_matches.binds (ps := ["answer", "due"]) fun _ _ _ _ _ _ us hl => match us, hl with | [_, _], _ => rfl
  have F_law_k25_counts := fun_mk (st := st_law_k25_counts) lk_law_k25_counts co_law_k25_counts kp_law_k25_counts
  have B_law_k25_counts := F_law_k25_counts.binds (ps := ["stock", "plain"]) fun _ _ _ _ _ _ us hl => match us, hl with | [_, _], _ => rfl
  have F_law_k25_tellers := fun_mk (st := st_law_k25_tellers) lk_law_k25_tellers co_law_k25_tellers kp_law_k25_tellers
  have B_law_k25_tellers := F_law_k25_tellers.binds (ps := ["table", "plain", "counts"]) fun _ _ _ _ _ _ us hl => match us, hl with | [_, _, _], _ => rfl
  have F_law_k25_called := fun_mk (st := st_law_k25_called) lk_law_k25_called co_law_k25_called kp_law_k25_called
  have B_law_k25_called := F_law_k25_called.binds (ps := ["stock", "plain", "counts"]) fun _ _ _ _ _ _ us hl => match us, hl with | [_, _, _], _ => rfl
  have F_law_k25_meetings := fun_mk (st := st_law_k25_meetings) lk_law_k25_meetings co_law_k25_meetings kp_law_k25_meetings
  have B_law_k25_meetings := F_law_k25_meetings.binds (ps := ["table", "plain", "counts", "rungs"]) fun _ _ _ _ _ _ us hl => match us, hl with | [_, _, _, _], _ => rfl
  have F_law_k25_fault := fun_mk (st := st_law_k25_fault) lk_law_k25_fault co_law_k25_fault kp_law_k25_fault
  have B_law_k25_fault := F_law_k25_fault.binds (ps := ["plain", "counts", "rungs", "at"]) fun _ _ _ _ _ _ us hl => match us, hl with | [_, _, _, _], _ => rfl
  have F_law_k25_bent := fun_mk (st := st_law_k25_bent) lk_law_k25_bent co_law_k25_bent kp_law_k25_bent
  have B_law_k25_bent := F_law_k25_bent.binds (ps := ["stock", "table", "plain", "counts", "rungs"]) fun _ _ _ _ _ _ us hl => match us, hl with | [_, _, _, _, _], _ => rfl
  have F_law_k25_moves := fun_mk (st := st_law_k25_moves) lk_law_k25_moves co_law_k25_moves kp_law_k25_moves
  have B_law_k25_moves := F_law_k25_moves.binds (ps := ["stock", "table", "plain", "counts"]) fun _ _ _ _ _ _ us hl => match us, hl with | [_, _, _, _], _ => rfl
  have F_law_k25_rungs_refused := fun_mk (st := st_law_k25_rungs_refused) lk_law_k25_rungs_refused co_law_k25_rungs_refused kp_law_k25_rungs_refused
  have B_law_k25_rungs_refused := F_law_k25_rungs_refused.binds (ps := ["table", "rungs"]) fun _ _ _ _ _ _ us hl => match us, hl with | [_, _], _ => rfl
  have F_law := fun_mk (st := st_law) lk_law co_law kp_law
  have B_law := F_law.binds (ps := ["script"]) fun _ _ _ _ _ _ us hl => match us, hl with | [_], _ => rfl
  have T : Txt K w mg { a_Table := a_Table, a_Ladder := a_Ladder, a_LIMITS := a_LIMITS, a_TOLD := a_TOLD, a_BadLadder := a_BadLadder, a_BadTable := a_BadTable, a_WinsError := a_WinsError, a_TooMany := a_TooMany, a_BadDemand := a_BadDemand, a_BadText := a_BadText, a_BadSeason := a_BadSeason, a_BadCode := a_BadCode, a_BadEvent := a_BadEvent, a_BadFoe := a_BadFoe, a_BadPaper := a_BadPaper, a_BadDisk := a_BadDisk, a_BadDeed := a_BadDeed, c_law_k25_bent := c_law_k25_bent, p_law_k25_bent := p_law_k25_bent, c_law_k25_moves := c_law_k25_moves, p_law_k25_moves := p_law_k25_moves, c_law_k25_rungs_refused := c_law_k25_rungs_refused, p_law_k25_rungs_refused := p_law_k25_rungs_refused } := {
    b_ValueError := PySem.W.mg_none_of X G b_ValueError
    b_abs := PySem.W.mg_none_of X G b_abs
    b_all := PySem.W.mg_none_of X G b_all
    b_bool := PySem.W.mg_none_of X G b_bool
    b_enumerate := PySem.W.mg_none_of X G b_enumerate
    b_int := PySem.W.mg_none_of X G b_int
    b_isinstance := PySem.W.mg_none_of X G b_isinstance
    b_len := PySem.W.mg_none_of X G b_len
    b_list := PySem.W.mg_none_of X G b_list
    b_max := PySem.W.mg_none_of X G b_max
    b_min := PySem.W.mg_none_of X G b_min
    b_range := PySem.W.mg_none_of X G b_range
    b_reversed := PySem.W.mg_none_of X G b_reversed
    b_str := PySem.W.mg_none_of X G b_str
    b_sum := PySem.W.mg_none_of X G b_sum
    b_tuple := PySem.W.mg_none_of X G b_tuple
    c_LIMITS := PySem.W.mg_of X G c_LIMITS
    k_LIMITS_lines := ⟨_, _, _, l_LIMITS, kl_LIMITS, v_LIMITS_lines, ⟨_, rfl⟩⟩
    k_LIMITS_words := ⟨_, _, _, l_LIMITS, kl_LIMITS, v_LIMITS_words, ⟨_, rfl⟩⟩
    k_LIMITS_number := ⟨_, _, _, l_LIMITS, kl_LIMITS, v_LIMITS_number, ⟨_, rfl⟩⟩
    k_LIMITS_depth := ⟨_, _, _, l_LIMITS, kl_LIMITS, v_LIMITS_depth, ⟨_, rfl⟩⟩
    k_LIMITS_blocks := ⟨_, _, _, l_LIMITS, kl_LIMITS, v_LIMITS_blocks, ⟨_, rfl⟩⟩
    k_LIMITS_lanes := ⟨_, _, _, l_LIMITS, kl_LIMITS, v_LIMITS_lanes, ⟨_, rfl⟩⟩
    k_LIMITS_rungs := ⟨_, _, _, l_LIMITS, kl_LIMITS, v_LIMITS_rungs, ⟨_, rfl⟩⟩
    k_LIMITS_ways := ⟨_, _, _, l_LIMITS, kl_LIMITS, v_LIMITS_ways, ⟨_, rfl⟩⟩
    k_LIMITS_promises := ⟨_, _, _, l_LIMITS, kl_LIMITS, v_LIMITS_promises, ⟨_, rfl⟩⟩
    k_LIMITS_variables := ⟨_, _, _, l_LIMITS, kl_LIMITS, v_LIMITS_variables, ⟨_, rfl⟩⟩
    k_LIMITS_states := ⟨_, _, _, l_LIMITS, kl_LIMITS, v_LIMITS_states, ⟨_, rfl⟩⟩
    k_LIMITS_rows := ⟨_, _, _, l_LIMITS, kl_LIMITS, v_LIMITS_rows, ⟨_, rfl⟩⟩
    k_LIMITS_events := ⟨_, _, _, l_LIMITS, kl_LIMITS, v_LIMITS_events, ⟨_, rfl⟩⟩
    k_LIMITS_meetings := ⟨_, _, _, l_LIMITS, kl_LIMITS, v_LIMITS_meetings, ⟨_, rfl⟩⟩
    k_LIMITS_housemeetings := ⟨_, _, _, l_LIMITS, kl_LIMITS, v_LIMITS_housemeetings, ⟨_, rfl⟩⟩
    k_LIMITS_rounds := ⟨_, _, _, l_LIMITS, kl_LIMITS, v_LIMITS_rounds, ⟨_, rfl⟩⟩
    k_LIMITS_late := ⟨_, _, _, l_LIMITS, kl_LIMITS, v_LIMITS_late, ⟨_, rfl⟩⟩
    k_LIMITS_plan := ⟨_, _, _, l_LIMITS, kl_LIMITS, v_LIMITS_plan, ⟨_, rfl⟩⟩
    k_LIMITS_nodes := ⟨_, _, _, l_LIMITS, kl_LIMITS, v_LIMITS_nodes, ⟨_, rfl⟩⟩
    k_LIMITS_players := ⟨_, _, _, l_LIMITS, kl_LIMITS, v_LIMITS_players, ⟨_, rfl⟩⟩
    k_LIMITS_log := ⟨_, _, _, l_LIMITS, kl_LIMITS, v_LIMITS_log, ⟨_, rfl⟩⟩
    k_LIMITS_signs := ⟨_, _, _, l_LIMITS, kl_LIMITS, v_LIMITS_signs, ⟨_, rfl⟩⟩
    c_OUT := ⟨_, PySem.W.mg_of X G c_OUT⟩
    c_TOLD := PySem.W.mg_of X G c_TOLD
    k_TOLD_blocks := ⟨_, _, _, l_TOLD, kl_TOLD, v_TOLD_blocks, ⟨_, rfl⟩⟩
    k_TOLD_states := ⟨_, _, _, l_TOLD, kl_TOLD, v_TOLD_states, ⟨_, rfl⟩⟩
    k_TOLD_housemeetings := ⟨_, _, _, l_TOLD, kl_TOLD, v_TOLD_housemeetings, ⟨_, rfl⟩⟩
    l_Table := ⟨pg_Table, hd_Table, po_Table, sa_Table⟩
    n_Table_ladder_kept := n_Table_ladder_kept
    n_Table_counts_list := n_Table_counts_list
    l_Ladder := ⟨pg_Ladder, hd_Ladder, po_Ladder, sa_Ladder⟩
    n_Ladder_lanes_number := n_Ladder_lanes_number
    n_Ladder_falls_list := n_Ladder_falls_list
    n_Ladder_returns_kept := n_Ladder_returns_kept
    n_Ladder_loads_table := n_Ladder_loads_table
    n_Ladder_heads_list := n_Ladder_heads_list
    n_Ladder_worths_list := n_Ladder_worths_list
    o_BadLadder := ⟨⟨_, _, _, _, _, _, _, _, _, _, _, _, _, _, _, xl_BadLadder, rv_BadLadder⟩, sa_BadLadder, ec_BadLadder, ty_BadLadder, kc_BadLadder⟩
    x_BadLadder := ⟨ga_BadLadder, gg_BadLadder, ec_BadLadder, hd_BadLadder⟩
    g_BadLadder := PySem.W.mg_of X G g_BadLadder
    m_BadLadder := exm_own ec_BadLadder ic_BadLadder ty_BadLadder ss_BadLadder
    n_BadLadder_rung := n_BadLadder_rung
    o_BadTable := ⟨⟨_, _, _, _, _, _, _, _, _, _, _, _, _, _, _, xl_BadTable, rv_BadTable⟩, sa_BadTable, ec_BadTable, ty_BadTable, kc_BadTable⟩
    x_BadTable := ⟨ga_BadTable, gg_BadTable, ec_BadTable, hd_BadTable⟩
    g_BadTable := PySem.W.mg_of X G g_BadTable
    m_BadTable := exm_own ec_BadTable ic_BadTable ty_BadTable ss_BadTable
    n_BadTable_rung := n_BadTable_rung
    g_WinsError := PySem.W.mg_of X G g_WinsError
    wg_WinsError := wg_WinsError
    wr_WinsError := wr_WinsError
    wv_WinsError := wv_WinsError
    g_TooMany := PySem.W.mg_of X G g_TooMany
    g_BadDemand := PySem.W.mg_of X G g_BadDemand
    g_BadText := PySem.W.mg_of X G g_BadText
    g_BadSeason := PySem.W.mg_of X G g_BadSeason
    g_BadCode := PySem.W.mg_of X G g_BadCode
    g_BadEvent := PySem.W.mg_of X G g_BadEvent
    g_BadFoe := PySem.W.mg_of X G g_BadFoe
    g_BadPaper := PySem.W.mg_of X G g_BadPaper
    g_BadDisk := PySem.W.mg_of X G g_BadDisk
    g_BadDeed := PySem.W.mg_of X G g_BadDeed
    xi_BadLadder := ⟨ic_BadLadder, ga_BadLadder, gg_BadLadder, ec_BadLadder, xc_BadLadder, xg_BadLadder, xt_BadLadder, xm_BadLadder⟩
    ki_BadLadder_TooMany := ki_BadLadder_TooMany
    ki_BadLadder_BadLadder := ki_BadLadder_BadLadder
    ki_BadLadder_BadTable := ki_BadLadder_BadTable
    ki_BadLadder_BadDemand := ki_BadLadder_BadDemand
    ki_BadLadder_ValueError := ki_BadLadder_ValueError
    ka_BadLadder_0 := ka_BadLadder_0
    mm_BadLadder_WinsError := mm_BadLadder_WinsError
    xi_BadTable := ⟨ic_BadTable, ga_BadTable, gg_BadTable, ec_BadTable, xc_BadTable, xg_BadTable, xt_BadTable, xm_BadTable⟩
    ki_BadTable_TooMany := ki_BadTable_TooMany
    ki_BadTable_BadLadder := ki_BadTable_BadLadder
    ki_BadTable_BadTable := ki_BadTable_BadTable
    ki_BadTable_BadDemand := ki_BadTable_BadDemand
    ki_BadTable_ValueError := ki_BadTable_ValueError
    ka_BadTable_0 := ka_BadTable_0
    mm_BadTable_WinsError := mm_BadTable_WinsError
    f_BadLadder_init := ⟨_, _, F_BadLadder_init, at_BadLadder_init, tf_BadLadder_init, B_BadLadder_init⟩
    f_BadTable_init := ⟨_, _, F_BadTable_init, at_BadTable_init, tf_BadTable_init, B_BadTable_init⟩
    f_grown := ⟨_, _, F_grown, PySem.W.mg_of X G at_grown, B_grown⟩
    f_load_rows := ⟨_, _, F_load_rows, PySem.W.mg_of X G at_load_rows, B_load_rows⟩
    f_head_row := ⟨_, _, F_head_row, PySem.W.mg_of X G at_head_row, B_head_row⟩
    f_worth_row := ⟨_, _, F_worth_row, PySem.W.mg_of X G at_worth_row, B_worth_row⟩
    f_wrong_count := ⟨_, _, F_wrong_count, PySem.W.mg_of X G at_wrong_count, B_wrong_count⟩
    f_Table_init := ⟨_, _, F_Table_init, ⟨mk_Table, at_Table_init, fn_Table_init, kc_Table⟩, PySem.W.mg_of X G g_Table, B_Table_init⟩
    f_Table_ladder := ⟨_, _, F_Table_ladder, ⟨at_Table_ladder, fn_Table_ladder, kp_Table_ladder⟩, B_Table_ladder⟩
    f_Table_counts := ⟨_, _, F_Table_counts, ⟨at_Table_counts, fn_Table_counts, kp_Table_counts⟩, B_Table_counts⟩
    f_Table_on := ⟨_, _, F_Table_on, ⟨at_Table_on, fn_Table_on, kp_Table_on⟩, B_Table_on⟩
    f_Table_players := ⟨_, _, F_Table_players, ⟨at_Table_players, fn_Table_players, kp_Table_players⟩, B_Table_players⟩
    f_Table_above := ⟨_, _, F_Table_above, ⟨at_Table_above, fn_Table_above, kp_Table_above⟩, B_Table_above⟩
    f_Table_heads := ⟨_, _, F_Table_heads, ⟨at_Table_heads, fn_Table_heads, kp_Table_heads⟩, B_Table_heads⟩
    f_Table_worth := ⟨_, _, F_Table_worth, ⟨at_Table_worth, fn_Table_worth, kp_Table_worth⟩, B_Table_worth⟩
    f_Table_load := ⟨_, _, F_Table_load, ⟨at_Table_load, fn_Table_load, kp_Table_load⟩, B_Table_load⟩
    f_Table_put := ⟨_, _, F_Table_put, ⟨at_Table_put, fn_Table_put, kp_Table_put⟩, B_Table_put⟩
    f_Table_take := ⟨_, _, F_Table_take, ⟨at_Table_take, fn_Table_take, kp_Table_take⟩, B_Table_take⟩
    f_Table_moved := ⟨_, _, F_Table_moved, ⟨at_Table_moved, fn_Table_moved, kp_Table_moved⟩, B_Table_moved⟩
    f_Table_level := ⟨_, _, F_Table_level, ⟨at_Table_level, fn_Table_level, kp_Table_level⟩, B_Table_level⟩
    f_Table_check_called := ⟨_, _, F_Table_check_called, ⟨at_Table_check_called, fn_Table_check_called, kp_Table_check_called⟩, B_Table_check_called⟩
    f_Table_behind := ⟨_, _, F_Table_behind, ⟨at_Table_behind, fn_Table_behind, kp_Table_behind⟩, B_Table_behind⟩
    f_bound := ⟨_, _, F_bound, PySem.W.mg_of X G at_bound, B_bound⟩
    f_wrong_rung := ⟨_, _, F_wrong_rung, PySem.W.mg_of X G at_wrong_rung, B_wrong_rung⟩
    f_Ladder_init := ⟨_, _, F_Ladder_init, ⟨mk_Ladder, at_Ladder_init, fn_Ladder_init, kc_Ladder⟩, PySem.W.mg_of X G g_Ladder, B_Ladder_init⟩
    f_Ladder_same_as := ⟨_, _, F_Ladder_same_as, ⟨at_Ladder_same_as, fn_Ladder_same_as, kp_Ladder_same_as⟩, B_Ladder_same_as⟩
    f_Ladder_lanes := ⟨_, _, F_Ladder_lanes, ⟨at_Ladder_lanes, fn_Ladder_lanes, kp_Ladder_lanes⟩, B_Ladder_lanes⟩
    f_Ladder_rungs := ⟨_, _, F_Ladder_rungs, ⟨at_Ladder_rungs, fn_Ladder_rungs, kp_Ladder_rungs⟩, B_Ladder_rungs⟩
    f_Ladder_falls := ⟨_, _, F_Ladder_falls, ⟨at_Ladder_falls, fn_Ladder_falls, kp_Ladder_falls⟩, B_Ladder_falls⟩
    f_Ladder_returns := ⟨_, _, F_Ladder_returns, ⟨at_Ladder_returns, fn_Ladder_returns, kp_Ladder_returns⟩, B_Ladder_returns⟩
    f_Ladder_check_rung := ⟨_, _, F_Ladder_check_rung, ⟨at_Ladder_check_rung, fn_Ladder_check_rung, kp_Ladder_check_rung⟩, B_Ladder_check_rung⟩
    f_Ladder_check_place := ⟨_, _, F_Ladder_check_place, ⟨at_Ladder_check_place, fn_Ladder_check_place, kp_Ladder_check_place⟩, B_Ladder_check_place⟩
    f_Ladder_fall := ⟨_, _, F_Ladder_fall, ⟨at_Ladder_fall, fn_Ladder_fall, kp_Ladder_fall⟩, B_Ladder_fall⟩
    f_Ladder_load := ⟨_, _, F_Ladder_load, ⟨at_Ladder_load, fn_Ladder_load, kp_Ladder_load⟩, B_Ladder_load⟩
    f_Ladder_heads := ⟨_, _, F_Ladder_heads, ⟨at_Ladder_heads, fn_Ladder_heads, kp_Ladder_heads⟩, B_Ladder_heads⟩
    f_Ladder_worth := ⟨_, _, F_Ladder_worth, ⟨at_Ladder_worth, fn_Ladder_worth, kp_Ladder_worth⟩, B_Ladder_worth⟩
    f_Ladder_weights := ⟨_, _, F_Ladder_weights, ⟨at_Ladder_weights, fn_Ladder_weights, kp_Ladder_weights⟩, B_Ladder_weights⟩
    f_law_e_named := ⟨_, _, F_law_e_named, PySem.W.mg_of X G at_law_e_named, B_law_e_named⟩
    f_law_e_asked := ⟨_, _, F_law_e_asked, PySem.W.mg_of X G at_law_e_asked, B_law_e_asked⟩
    f_law_e_refused := ⟨_, _, F_law_e_refused, PySem.W.mg_of X G at_law_e_refused, B_law_e_refused⟩
    f_law_e_let := ⟨_, _, F_law_e_let, PySem.W.mg_of X G at_law_e_let, B_law_e_let⟩
    f_law_e_falls := ⟨_, _, F_law_e_falls, PySem.W.mg_of X G at_law_e_falls, B_law_e_falls⟩
    f_law_e_ladder := ⟨_, _, F_law_e_ladder, PySem.W.mg_of X G at_law_e_ladder, B_law_e_ladder⟩
    f_law_e_low := ⟨_, _, F_law_e_low, PySem.W.mg_of X G at_law_e_low, B_law_e_low⟩
    f_law_e_loads := ⟨_, _, F_law_e_loads, PySem.W.mg_of X G at_law_e_loads, B_law_e_loads⟩
    f_law_e_heads := ⟨_, _, F_law_e_heads, PySem.W.mg_of X G at_law_e_heads, B_law_e_heads⟩
    f_law_e_worths := ⟨_, _, F_law_e_worths, PySem.W.mg_of X G at_law_e_worths, B_law_e_worths⟩
    f_law_e_sum := ⟨_, _, F_law_e_sum, PySem.W.mg_of X G at_law_e_sum, B_law_e_sum⟩
    f_law_e_behind := ⟨_, _, F_law_e_behind, PySem.W.mg_of X G at_law_e_behind, B_law_e_behind⟩
    f_law_stock := ⟨_, _, F_law_stock, PySem.W.mg_of X G at_law_stock, B_law_stock⟩
    f_law_draw := ⟨_, _, F_law_draw, PySem.W.mg_of X G at_law_draw, B_law_draw⟩
    f_law_matches := ⟨_, _, F_law_matches, PySem.W.mg_of X G at_law_matches, B_law_matches⟩
    f_law_k25_counts := ⟨_, _, F_law_k25_counts, PySem.W.mg_of X G at_law_k25_counts, B_law_k25_counts⟩
    f_law_k25_tellers := ⟨_, _, F_law_k25_tellers, PySem.W.mg_of X G at_law_k25_tellers, B_law_k25_tellers⟩
    f_law_k25_called := ⟨_, _, F_law_k25_called, PySem.W.mg_of X G at_law_k25_called, B_law_k25_called⟩
    f_law_k25_meetings := ⟨_, _, F_law_k25_meetings, PySem.W.mg_of X G at_law_k25_meetings, B_law_k25_meetings⟩
    f_law_k25_fault := ⟨_, _, F_law_k25_fault, PySem.W.mg_of X G at_law_k25_fault, B_law_k25_fault⟩
    f_law_k25_bent := ⟨_, _, F_law_k25_bent, rfl, PySem.W.mg_of X G at_law_k25_bent, B_law_k25_bent⟩
    f_law_k25_moves := ⟨_, _, F_law_k25_moves, rfl, PySem.W.mg_of X G at_law_k25_moves, B_law_k25_moves⟩
    f_law_k25_rungs_refused := ⟨_, _, F_law_k25_rungs_refused, rfl, PySem.W.mg_of X G at_law_k25_rungs_refused, B_law_k25_rungs_refused⟩
    f_law := ⟨_, _, F_law, PySem.W.mg_of X G at_law, B_law⟩
  }
  refine ⟨PySem.W.fnOf "law" "law" (defArgs st_law) (defBody st_law) (defScope st_law) .none kV_law dc_law pm_law an_law cd_law ct_law, [(c_law_k25_bent, p_law_k25_bent), (c_law_k25_moves, p_law_k25_moves), (c_law_k25_rungs_refused, p_law_k25_rungs_refused)], sp_law K { a_Table := a_Table, a_Ladder := a_Ladder, a_LIMITS := a_LIMITS, a_TOLD := a_TOLD, a_BadLadder := a_BadLadder, a_BadTable := a_BadTable, a_WinsError := a_WinsError, a_TooMany := a_TooMany, a_BadDemand := a_BadDemand, a_BadText := a_BadText, a_BadSeason := a_BadSeason, a_BadCode := a_BadCode, a_BadEvent := a_BadEvent, a_BadFoe := a_BadFoe, a_BadPaper := a_BadPaper, a_BadDisk := a_BadDisk, a_BadDeed := a_BadDeed, c_law_k25_bent := c_law_k25_bent, p_law_k25_bent := p_law_k25_bent, c_law_k25_moves := c_law_k25_moves, p_law_k25_moves := p_law_k25_moves, c_law_k25_rungs_refused := c_law_k25_rungs_refused, p_law_k25_rungs_refused := p_law_k25_rungs_refused }, List.forall_mem_cons.mpr ⟨tb_law_k25_bent, List.forall_mem_cons.mpr ⟨tb_law_k25_moves, List.forall_mem_cons.mpr ⟨tb_law_k25_rungs_refused, fun _ h => nomatch h⟩⟩⟩, List.forall_mem_cons.mpr ⟨nT_law_k25_bent, List.forall_mem_cons.mpr ⟨nT_law_k25_moves, List.forall_mem_cons.mpr ⟨nT_law_k25_rungs_refused, fun _ h => nomatch h⟩⟩⟩, List.forall_mem_cons.mpr ⟨PySem.W.codeHd_of_K X hc_law_k25_bent, List.forall_mem_cons.mpr ⟨PySem.W.codeHd_of_K X hc_law_k25_moves, List.forall_mem_cons.mpr ⟨PySem.W.codeHd_of_K X hc_law_k25_rungs_refused, fun _ h => nomatch h⟩⟩⟩, fun s v => .of_eq rfl, fun H a ns hl _ hH hS => ⟨a, ns, rfl, hS, hl, ?_, fun _ => rfl⟩, fun base _ _ TB => ok_law T ?_ F_law⟩
  · exact List.forall_mem_cons.mpr ⟨LamX.TabS.nil (hH (c_law_k25_bent, p_law_k25_bent) (.head _)), List.forall_mem_cons.mpr ⟨LamX.TabS.nil (hH (c_law_k25_moves, p_law_k25_moves) (.tail _ (.head _))), List.forall_mem_cons.mpr ⟨LamX.TabS.nil (hH (c_law_k25_rungs_refused, p_law_k25_rungs_refused) (.tail _ (.tail _ (.head _)))), fun _ h => nomatch h⟩⟩⟩
  · exact ⟨TB (c_law_k25_bent, p_law_k25_bent) (.head _), TB (c_law_k25_moves, p_law_k25_moves) (.tail _ (.head _)), TB (c_law_k25_rungs_refused, p_law_k25_rungs_refused) (.tail _ (.tail _ (.head _))), ne_law_k25_moves_law_k25_bent, ne_law_k25_rungs_refused_law_k25_bent, ne_law_k25_rungs_refused_law_k25_moves⟩
theorem walk {l : PySem.W.OpenLaw} {q : Program} {loose : List Str} {XP : (Str → Option Value) → Heap → Prop} {YP : World → Heap → Prop} {d : DefRec} {K : Params → PySem.W.Frag} (hn : l.most = some 63) (hdf : d.params.defaults = [])
    (hY : ∀ (w : World) (h : Heap), YP w h → (K w.params).In h)
    (F : ∀ (w : World) (mg : Str → Option Value) (fa : Addr) (h : Heap), YP w h → (K w.params).In h → h.Ns mainGlobals mg → mg d.name = some (.ref fa) → LamX.LawAtS l w (K w.params) CX0 13 63 "script" mg fa h) :
    PySem.W.WalkO q loose XP YP l.row.toRowW d [] (fun f vs => PySem.call f vs) :=
  LamX.walk_ofTs (n := 63) (k := 13) (x := "script") (CX := fun _ => CX0) hn (by decide) hdf ⟨rfl, by decide, by decide⟩ hY F fun _ _ _ _ _ z => z
end L25
open PySem PySem.W PyProof.Rows in
set_option maxRecDepth 100000 in
set_option maxHeartbeats 0 in
theorem PySem.Challenge.cw_whoeverwins_k25_tables_and_what_a_meetin_holds : PySem.Challenge.rw_whoeverwins_k25_tables_and_what_a_meetin.Holds := by
  w_on; o_law; k_head; (case hw => w_witness2)
  k_fill
  refine L25.walk (l := PySem.Challenge.rw_whoeverwins_k25_tables_and_what_a_meetin) rfl rfl (fun w h Y => PySem.W.km_in_of Y) ?F
  case F =>
    intro w mg fa h Y KX G hmg
    refine' L25.all_mk KX G hmg ?g_Table ?pg_Table ?hd_Table ?po_Table ?sa_Table ?mk_Table ?kc_Table ?g_Ladder ?pg_Ladder ?hd_Ladder ?po_Ladder ?sa_Ladder ?mk_Ladder ?kc_Ladder ?b_ValueError ?b_abs ?b_all ?b_bool ?b_enumerate ?b_int ?b_isinstance ?b_len ?b_list ?b_max ?b_min ?b_range ?b_reversed ?b_str ?b_sum ?b_tuple ?c_LIMITS ?l_LIMITS ?kl_LIMITS ?v_LIMITS_lines ?v_LIMITS_words ?v_LIMITS_number ?v_LIMITS_depth ?v_LIMITS_blocks ?v_LIMITS_lanes ?v_LIMITS_rungs ?v_LIMITS_ways ?v_LIMITS_promises ?v_LIMITS_variables ?v_LIMITS_states ?v_LIMITS_rows ?v_LIMITS_events ?v_LIMITS_meetings ?v_LIMITS_housemeetings ?v_LIMITS_rounds ?v_LIMITS_late ?v_LIMITS_plan ?v_LIMITS_nodes ?v_LIMITS_players ?v_LIMITS_log ?v_LIMITS_signs ?c_OUT ?c_TOLD ?l_TOLD ?kl_TOLD ?v_TOLD_blocks ?v_TOLD_states ?v_TOLD_housemeetings ?n_Table_ladder_kept ?n_Table_counts_list ?n_Ladder_lanes_number ?n_Ladder_falls_list ?n_Ladder_returns_kept ?n_Ladder_loads_table ?n_Ladder_heads_list ?n_Ladder_worths_list ?g_BadLadder ?xl_BadLadder ?rv_BadLadder ?sa_BadLadder ?ec_BadLadder ?ty_BadLadder ?kc_BadLadder ?ga_BadLadder ?gg_BadLadder ?hd_BadLadder ?ic_BadLadder ?ss_BadLadder ?n_BadLadder_rung ?g_BadTable ?xl_BadTable ?rv_BadTable ?sa_BadTable ?ec_BadTable ?ty_BadTable ?kc_BadTable ?ga_BadTable ?gg_BadTable ?hd_BadTable ?ic_BadTable ?ss_BadTable ?n_BadTable_rung ?g_WinsError ?wg_WinsError ?wr_WinsError ?wv_WinsError ?g_TooMany ?g_BadDemand ?g_BadText ?g_BadSeason ?g_BadCode ?g_BadEvent ?g_BadFoe ?g_BadPaper ?g_BadDisk ?g_BadDeed ?xc_BadLadder ?xg_BadLadder ?xt_BadLadder ?xm_BadLadder ?ki_BadLadder_TooMany ?ki_BadLadder_BadLadder ?ki_BadLadder_BadTable ?ki_BadLadder_BadDemand ?ki_BadLadder_ValueError ?ka_BadLadder_0 ?mm_BadLadder_WinsError ?xc_BadTable ?xg_BadTable ?xt_BadTable ?xm_BadTable ?ki_BadTable_TooMany ?ki_BadTable_BadLadder ?ki_BadTable_BadTable ?ki_BadTable_BadDemand ?ki_BadTable_ValueError ?ka_BadTable_0 ?mm_BadTable_WinsError ?at_BadLadder_init ?tf_BadLadder_init ?lk_BadLadder_init ?co_BadLadder_init ?kp_BadLadder_init ?at_BadTable_init ?tf_BadTable_init ?lk_BadTable_init ?co_BadTable_init ?kp_BadTable_init ?at_grown ?lk_grown ?co_grown ?kp_grown ?at_load_rows ?lk_load_rows ?co_load_rows ?kp_load_rows ?at_head_row ?lk_head_row ?co_head_row ?kp_head_row ?at_worth_row ?lk_worth_row ?co_worth_row ?kp_worth_row ?at_wrong_count ?lk_wrong_count ?co_wrong_count ?kp_wrong_count ?at_Table_init ?fn_Table_init ?lk_Table_init ?co_Table_init ?kp_Table_init ?at_Table_ladder ?fn_Table_ladder ?lk_Table_ladder ?co_Table_ladder ?kp_Table_ladder ?at_Table_counts ?fn_Table_counts ?lk_Table_counts ?co_Table_counts ?kp_Table_counts ?at_Table_on ?fn_Table_on ?lk_Table_on ?co_Table_on ?kp_Table_on ?at_Table_players ?fn_Table_players ?lk_Table_players ?co_Table_players ?kp_Table_players ?at_Table_above ?fn_Table_above ?lk_Table_above ?co_Table_above ?kp_Table_above ?at_Table_heads ?fn_Table_heads ?lk_Table_heads ?co_Table_heads ?kp_Table_heads ?at_Table_worth ?fn_Table_worth ?lk_Table_worth ?co_Table_worth ?kp_Table_worth ?at_Table_load ?fn_Table_load ?lk_Table_load ?co_Table_load ?kp_Table_load ?at_Table_put ?fn_Table_put ?lk_Table_put ?co_Table_put ?kp_Table_put ?at_Table_take ?fn_Table_take ?lk_Table_take ?co_Table_take ?kp_Table_take ?at_Table_moved ?fn_Table_moved ?lk_Table_moved ?co_Table_moved ?kp_Table_moved ?at_Table_level ?fn_Table_level ?lk_Table_level ?co_Table_level ?kp_Table_level ?at_Table_check_called ?fn_Table_check_called ?lk_Table_check_called ?co_Table_check_called ?kp_Table_check_called ?at_Table_behind ?fn_Table_behind ?lk_Table_behind ?co_Table_behind ?kp_Table_behind ?at_bound ?lk_bound ?co_bound ?kp_bound ?at_wrong_rung ?lk_wrong_rung ?co_wrong_rung ?kp_wrong_rung ?at_Ladder_init ?fn_Ladder_init ?lk_Ladder_init ?co_Ladder_init ?kp_Ladder_init ?at_Ladder_same_as ?fn_Ladder_same_as ?lk_Ladder_same_as ?co_Ladder_same_as ?kp_Ladder_same_as ?at_Ladder_lanes ?fn_Ladder_lanes ?lk_Ladder_lanes ?co_Ladder_lanes ?kp_Ladder_lanes ?at_Ladder_rungs ?fn_Ladder_rungs ?lk_Ladder_rungs ?co_Ladder_rungs ?kp_Ladder_rungs ?at_Ladder_falls ?fn_Ladder_falls ?lk_Ladder_falls ?co_Ladder_falls ?kp_Ladder_falls ?at_Ladder_returns ?fn_Ladder_returns ?lk_Ladder_returns ?co_Ladder_returns ?kp_Ladder_returns ?at_Ladder_check_rung ?fn_Ladder_check_rung ?lk_Ladder_check_rung ?co_Ladder_check_rung ?kp_Ladder_check_rung ?at_Ladder_check_place ?fn_Ladder_check_place ?lk_Ladder_check_place ?co_Ladder_check_place ?kp_Ladder_check_place ?at_Ladder_fall ?fn_Ladder_fall ?lk_Ladder_fall ?co_Ladder_fall ?kp_Ladder_fall ?at_Ladder_load ?fn_Ladder_load ?lk_Ladder_load ?co_Ladder_load ?kp_Ladder_load ?at_Ladder_heads ?fn_Ladder_heads ?lk_Ladder_heads ?co_Ladder_heads ?kp_Ladder_heads ?at_Ladder_worth ?fn_Ladder_worth ?lk_Ladder_worth ?co_Ladder_worth ?kp_Ladder_worth ?at_Ladder_weights ?fn_Ladder_weights ?lk_Ladder_weights ?co_Ladder_weights ?kp_Ladder_weights ?at_law_e_named ?lk_law_e_named ?co_law_e_named ?kp_law_e_named ?at_law_e_asked ?lk_law_e_asked ?co_law_e_asked ?kp_law_e_asked ?at_law_e_refused ?lk_law_e_refused ?co_law_e_refused ?kp_law_e_refused ?at_law_e_let ?lk_law_e_let ?co_law_e_let ?kp_law_e_let ?at_law_e_falls ?lk_law_e_falls ?co_law_e_falls ?kp_law_e_falls ?at_law_e_ladder ?lk_law_e_ladder ?co_law_e_ladder ?kp_law_e_ladder ?at_law_e_low ?lk_law_e_low ?co_law_e_low ?kp_law_e_low ?at_law_e_loads ?lk_law_e_loads ?co_law_e_loads ?kp_law_e_loads ?at_law_e_heads ?lk_law_e_heads ?co_law_e_heads ?kp_law_e_heads ?at_law_e_worths ?lk_law_e_worths ?co_law_e_worths ?kp_law_e_worths ?at_law_e_sum ?lk_law_e_sum ?co_law_e_sum ?kp_law_e_sum ?at_law_e_behind ?lk_law_e_behind ?co_law_e_behind ?kp_law_e_behind ?at_law_stock ?lk_law_stock ?co_law_stock ?kp_law_stock ?at_law_draw ?lk_law_draw ?co_law_draw ?kp_law_draw ?at_law_matches ?lk_law_matches ?co_law_matches ?kp_law_matches ?at_law_k25_counts ?lk_law_k25_counts ?co_law_k25_counts ?kp_law_k25_counts ?at_law_k25_tellers ?lk_law_k25_tellers ?co_law_k25_tellers ?kp_law_k25_tellers ?at_law_k25_called ?lk_law_k25_called ?co_law_k25_called ?kp_law_k25_called ?at_law_k25_meetings ?lk_law_k25_meetings ?co_law_k25_meetings ?kp_law_k25_meetings ?at_law_k25_fault ?lk_law_k25_fault ?co_law_k25_fault ?kp_law_k25_fault ?at_law_k25_bent ?lk_law_k25_bent ?co_law_k25_bent ?kp_law_k25_bent ?vc_law_k25_bent ?v11_law_k25_bent ?hc_law_k25_bent ?nT_law_k25_bent ?tb_law_k25_bent ?at_law_k25_moves ?lk_law_k25_moves ?co_law_k25_moves ?kp_law_k25_moves ?vc_law_k25_moves ?v11_law_k25_moves ?hc_law_k25_moves ?nT_law_k25_moves ?tb_law_k25_moves ?at_law_k25_rungs_refused ?lk_law_k25_rungs_refused ?co_law_k25_rungs_refused ?kp_law_k25_rungs_refused ?vc_law_k25_rungs_refused ?v11_law_k25_rungs_refused ?hc_law_k25_rungs_refused ?nT_law_k25_rungs_refused ?tb_law_k25_rungs_refused ?at_law ?lk_law ?co_law ?kp_law ?ne_law_k25_moves_law_k25_bent ?ne_law_k25_rungs_refused_law_k25_bent ?ne_law_k25_rungs_refused_law_k25_moves
    (case g_Table => k_is)
    (case pg_Table => k_is)
    (case hd_Table => k_is)
    (case po_Table => k_is)
    (case sa_Table => k_is)
    (case mk_Table => k_is)
    (case kc_Table => k_is)
    (case g_Ladder => k_is)
    (case pg_Ladder => k_is)
    (case hd_Ladder => k_is)
    (case po_Ladder => k_is)
    (case sa_Ladder => k_is)
    (case mk_Ladder => k_is)
    (case kc_Ladder => k_is)
    (case b_ValueError => k_is)
    (case b_abs => k_is)
    (case b_all => k_is)
    (case b_bool => k_is)
    (case b_enumerate => k_is)
    (case b_int => k_is)
    (case b_isinstance => k_is)
    (case b_len => k_is)
    (case b_list => k_is)
    (case b_max => k_is)
    (case b_min => k_is)
    (case b_range => k_is)
    (case b_reversed => k_is)
    (case b_str => k_is)
    (case b_sum => k_is)
    (case b_tuple => k_is)
    (case c_LIMITS => k_is)
    (case l_LIMITS => k_is)
    (case kl_LIMITS => exact ⟨⟨_, _, rfl, rfl⟩, ⟨⟨_, _, rfl, rfl⟩, ⟨⟨_, _, rfl, rfl⟩, ⟨⟨_, _, rfl, rfl⟩, ⟨⟨_, _, rfl, rfl⟩, ⟨⟨_, _, rfl, rfl⟩, ⟨⟨_, _, rfl, rfl⟩, ⟨⟨_, _, rfl, rfl⟩, ⟨⟨_, _, rfl, rfl⟩, ⟨⟨_, _, rfl, rfl⟩, ⟨⟨_, _, rfl, rfl⟩, ⟨⟨_, _, rfl, rfl⟩, ⟨⟨_, _, rfl, rfl⟩, ⟨⟨_, _, rfl, rfl⟩, ⟨⟨_, _, rfl, rfl⟩, ⟨⟨_, _, rfl, rfl⟩, ⟨⟨_, _, rfl, rfl⟩, ⟨⟨_, _, rfl, rfl⟩, ⟨⟨_, _, rfl, rfl⟩, ⟨⟨_, _, rfl, rfl⟩, ⟨⟨_, _, rfl, rfl⟩, ⟨⟨_, _, rfl, rfl⟩, trivial⟩⟩⟩⟩⟩⟩⟩⟩⟩⟩⟩⟩⟩⟩⟩⟩⟩⟩⟩⟩⟩⟩)
    (case v_LIMITS_lines => k_is)
    (case v_LIMITS_words => k_is)
    (case v_LIMITS_number => k_is)
    (case v_LIMITS_depth => k_is)
    (case v_LIMITS_blocks => k_is)
    (case v_LIMITS_lanes => k_is)
    (case v_LIMITS_rungs => k_is)
    (case v_LIMITS_ways => k_is)
    (case v_LIMITS_promises => k_is)
    (case v_LIMITS_variables => k_is)
    (case v_LIMITS_states => k_is)
    (case v_LIMITS_rows => k_is)
    (case v_LIMITS_events => k_is)
    (case v_LIMITS_meetings => k_is)
    (case v_LIMITS_housemeetings => k_is)
    (case v_LIMITS_rounds => k_is)
    (case v_LIMITS_late => k_is)
    (case v_LIMITS_plan => k_is)
    (case v_LIMITS_nodes => k_is)
    (case v_LIMITS_players => k_is)
    (case v_LIMITS_log => k_is)
    (case v_LIMITS_signs => k_is)
    (case c_OUT => k_is)
    (case c_TOLD => k_is)
    (case l_TOLD => k_is)
    (case kl_TOLD => exact ⟨⟨_, _, rfl, rfl⟩, ⟨⟨_, _, rfl, rfl⟩, ⟨⟨_, _, rfl, rfl⟩, trivial⟩⟩⟩)
    (case v_TOLD_blocks => k_is)
    (case v_TOLD_states => k_is)
    (case v_TOLD_housemeetings => k_is)
    (case n_Table_ladder_kept => k_is)
    (case n_Table_counts_list => k_is)
    (case n_Ladder_lanes_number => k_is)
    (case n_Ladder_falls_list => k_is)
    (case n_Ladder_returns_kept => k_is)
    (case n_Ladder_loads_table => k_is)
    (case n_Ladder_heads_list => k_is)
    (case n_Ladder_worths_list => k_is)
    (case g_BadLadder => k_is)
    (case xl_BadLadder => k_is)
    (case rv_BadLadder => first | rfl | decide +kernel | k_is)
    (case sa_BadLadder => k_is)
    (case ec_BadLadder => k_is)
    (case ty_BadLadder => k_is)
    (case kc_BadLadder => k_is)
    (case ga_BadLadder => k_is)
    (case gg_BadLadder => k_is)
    (case hd_BadLadder => k_is)
    (case ic_BadLadder => k_is)
    (case ss_BadLadder => first | rfl | k_is)
    (case n_BadLadder_rung => k_is)
    (case g_BadTable => k_is)
    (case xl_BadTable => k_is)
    (case rv_BadTable => first | rfl | decide +kernel | k_is)
    (case sa_BadTable => k_is)
    (case ec_BadTable => k_is)
    (case ty_BadTable => k_is)
    (case kc_BadTable => k_is)
    (case ga_BadTable => k_is)
    (case gg_BadTable => k_is)
    (case hd_BadTable => k_is)
    (case ic_BadTable => k_is)
    (case ss_BadTable => first | rfl | k_is)
    (case n_BadTable_rung => k_is)
    (case g_WinsError => k_is)
    (case wg_WinsError => k_is)
    (case wr_WinsError => k_is)
    (case wv_WinsError => k_is)
    (case g_TooMany => k_is)
    (case g_BadDemand => k_is)
    (case g_BadText => k_is)
    (case g_BadSeason => k_is)
    (case g_BadCode => k_is)
    (case g_BadEvent => k_is)
    (case g_BadFoe => k_is)
    (case g_BadPaper => k_is)
    (case g_BadDisk => k_is)
    (case g_BadDeed => k_is)
    (case xc_BadLadder => k_is)
    (case xg_BadLadder => k_is)
    (case xt_BadLadder => first | k_is | kernel_rfl | rfl)
    (case xm_BadLadder => first | k_is | kernel_rfl | rfl)
    (case ki_BadLadder_TooMany => first | k_is | kernel_rfl | rfl)
    (case ki_BadLadder_BadLadder => first | k_is | kernel_rfl | rfl)
    (case ki_BadLadder_BadTable => first | k_is | kernel_rfl | rfl)
    (case ki_BadLadder_BadDemand => first | k_is | kernel_rfl | rfl)
    (case ki_BadLadder_ValueError => first | k_is | kernel_rfl | rfl)
    (case ka_BadLadder_0 => first | k_is | kernel_rfl | rfl)
    (case mm_BadLadder_WinsError => first | k_is | kernel_rfl | rfl)
    (case xc_BadTable => k_is)
    (case xg_BadTable => k_is)
    (case xt_BadTable => first | k_is | kernel_rfl | rfl)
    (case xm_BadTable => first | k_is | kernel_rfl | rfl)
    (case ki_BadTable_TooMany => first | k_is | kernel_rfl | rfl)
    (case ki_BadTable_BadLadder => first | k_is | kernel_rfl | rfl)
    (case ki_BadTable_BadTable => first | k_is | kernel_rfl | rfl)
    (case ki_BadTable_BadDemand => first | k_is | kernel_rfl | rfl)
    (case ki_BadTable_ValueError => first | k_is | kernel_rfl | rfl)
    (case ka_BadTable_0 => first | k_is | kernel_rfl | rfl)
    (case mm_BadTable_WinsError => first | k_is | kernel_rfl | rfl)
    (case at_BadLadder_init => k_is)
    (case tf_BadLadder_init => k_is)
    (case lk_BadLadder_init => k_is)
    (case co_BadLadder_init => k_is)
    (case kp_BadLadder_init => k_is)
    (case at_BadTable_init => k_is)
    (case tf_BadTable_init => k_is)
    (case lk_BadTable_init => k_is)
    (case co_BadTable_init => k_is)
    (case kp_BadTable_init => k_is)
    (case at_grown => k_is)
    (case lk_grown => k_is)
    (case co_grown => k_is)
    (case kp_grown => k_is)
    (case at_load_rows => k_is)
    (case lk_load_rows => k_is)
    (case co_load_rows => k_is)
    (case kp_load_rows => k_is)
    (case at_head_row => k_is)
    (case lk_head_row => k_is)
    (case co_head_row => k_is)
    (case kp_head_row => k_is)
    (case at_worth_row => k_is)
    (case lk_worth_row => k_is)
    (case co_worth_row => k_is)
    (case kp_worth_row => k_is)
    (case at_wrong_count => k_is)
    (case lk_wrong_count => k_is)
    (case co_wrong_count => k_is)
    (case kp_wrong_count => k_is)
    (case at_Table_init => k_is)
    (case fn_Table_init => k_is)
    (case lk_Table_init => k_is)
    (case co_Table_init => k_is)
    (case kp_Table_init => k_is)
    (case at_Table_ladder => k_is)
    (case fn_Table_ladder => k_is)
    (case lk_Table_ladder => k_is)
    (case co_Table_ladder => k_is)
    (case kp_Table_ladder => k_is)
    (case at_Table_counts => k_is)
    (case fn_Table_counts => k_is)
    (case lk_Table_counts => k_is)
    (case co_Table_counts => k_is)
    (case kp_Table_counts => k_is)
    (case at_Table_on => k_is)
    (case fn_Table_on => k_is)
    (case lk_Table_on => k_is)
    (case co_Table_on => k_is)
    (case kp_Table_on => k_is)
    (case at_Table_players => k_is)
    (case fn_Table_players => k_is)
    (case lk_Table_players => k_is)
    (case co_Table_players => k_is)
    (case kp_Table_players => k_is)
    (case at_Table_above => k_is)
    (case fn_Table_above => k_is)
    (case lk_Table_above => k_is)
    (case co_Table_above => k_is)
    (case kp_Table_above => k_is)
    (case at_Table_heads => k_is)
    (case fn_Table_heads => k_is)
    (case lk_Table_heads => k_is)
    (case co_Table_heads => k_is)
    (case kp_Table_heads => k_is)
    (case at_Table_worth => k_is)
    (case fn_Table_worth => k_is)
    (case lk_Table_worth => k_is)
    (case co_Table_worth => k_is)
    (case kp_Table_worth => k_is)
    (case at_Table_load => k_is)
    (case fn_Table_load => k_is)
    (case lk_Table_load => k_is)
    (case co_Table_load => k_is)
    (case kp_Table_load => k_is)
    (case at_Table_put => k_is)
    (case fn_Table_put => k_is)
    (case lk_Table_put => k_is)
    (case co_Table_put => k_is)
    (case kp_Table_put => k_is)
    (case at_Table_take => k_is)
    (case fn_Table_take => k_is)
    (case lk_Table_take => k_is)
    (case co_Table_take => k_is)
    (case kp_Table_take => k_is)
    (case at_Table_moved => k_is)
    (case fn_Table_moved => k_is)
    (case lk_Table_moved => k_is)
    (case co_Table_moved => k_is)
    (case kp_Table_moved => k_is)
    (case at_Table_level => k_is)
    (case fn_Table_level => k_is)
    (case lk_Table_level => k_is)
    (case co_Table_level => k_is)
    (case kp_Table_level => k_is)
    (case at_Table_check_called => k_is)
    (case fn_Table_check_called => k_is)
    (case lk_Table_check_called => k_is)
    (case co_Table_check_called => k_is)
    (case kp_Table_check_called => k_is)
    (case at_Table_behind => k_is)
    (case fn_Table_behind => k_is)
    (case lk_Table_behind => k_is)
    (case co_Table_behind => k_is)
    (case kp_Table_behind => k_is)
    (case at_bound => k_is)
    (case lk_bound => k_is)
    (case co_bound => k_is)
    (case kp_bound => k_is)
    (case at_wrong_rung => k_is)
    (case lk_wrong_rung => k_is)
    (case co_wrong_rung => k_is)
    (case kp_wrong_rung => k_is)
    (case at_Ladder_init => k_is)
    (case fn_Ladder_init => k_is)
    (case lk_Ladder_init => k_is)
    (case co_Ladder_init => k_is)
    (case kp_Ladder_init => k_is)
    (case at_Ladder_same_as => k_is)
    (case fn_Ladder_same_as => k_is)
    (case lk_Ladder_same_as => k_is)
    (case co_Ladder_same_as => k_is)
    (case kp_Ladder_same_as => k_is)
    (case at_Ladder_lanes => k_is)
    (case fn_Ladder_lanes => k_is)
    (case lk_Ladder_lanes => k_is)
    (case co_Ladder_lanes => k_is)
    (case kp_Ladder_lanes => k_is)
    (case at_Ladder_rungs => k_is)
    (case fn_Ladder_rungs => k_is)
    (case lk_Ladder_rungs => k_is)
    (case co_Ladder_rungs => k_is)
    (case kp_Ladder_rungs => k_is)
    (case at_Ladder_falls => k_is)
    (case fn_Ladder_falls => k_is)
    (case lk_Ladder_falls => k_is)
    (case co_Ladder_falls => k_is)
    (case kp_Ladder_falls => k_is)
    (case at_Ladder_returns => k_is)
    (case fn_Ladder_returns => k_is)
    (case lk_Ladder_returns => k_is)
    (case co_Ladder_returns => k_is)
    (case kp_Ladder_returns => k_is)
    (case at_Ladder_check_rung => k_is)
    (case fn_Ladder_check_rung => k_is)
    (case lk_Ladder_check_rung => k_is)
    (case co_Ladder_check_rung => k_is)
    (case kp_Ladder_check_rung => k_is)
    (case at_Ladder_check_place => k_is)
    (case fn_Ladder_check_place => k_is)
    (case lk_Ladder_check_place => k_is)
    (case co_Ladder_check_place => k_is)
    (case kp_Ladder_check_place => k_is)
    (case at_Ladder_fall => k_is)
    (case fn_Ladder_fall => k_is)
    (case lk_Ladder_fall => k_is)
    (case co_Ladder_fall => k_is)
    (case kp_Ladder_fall => k_is)
    (case at_Ladder_load => k_is)
    (case fn_Ladder_load => k_is)
    (case lk_Ladder_load => k_is)
    (case co_Ladder_load => k_is)
    (case kp_Ladder_load => k_is)
    (case at_Ladder_heads => k_is)
    (case fn_Ladder_heads => k_is)
    (case lk_Ladder_heads => k_is)
    (case co_Ladder_heads => k_is)
    (case kp_Ladder_heads => k_is)
    (case at_Ladder_worth => k_is)
    (case fn_Ladder_worth => k_is)
    (case lk_Ladder_worth => k_is)
    (case co_Ladder_worth => k_is)
    (case kp_Ladder_worth => k_is)
    (case at_Ladder_weights => k_is)
    (case fn_Ladder_weights => k_is)
    (case lk_Ladder_weights => k_is)
    (case co_Ladder_weights => k_is)
    (case kp_Ladder_weights => k_is)
    (case at_law_e_named => k_is)
    (case lk_law_e_named => k_is)
    (case co_law_e_named => k_is)
    (case kp_law_e_named => k_is)
    (case at_law_e_asked => k_is)
    (case lk_law_e_asked => k_is)
    (case co_law_e_asked => k_is)
    (case kp_law_e_asked => k_is)
    (case at_law_e_refused => k_is)
    (case lk_law_e_refused => k_is)
    (case co_law_e_refused => k_is)
    (case kp_law_e_refused => k_is)
    (case at_law_e_let => k_is)
    (case lk_law_e_let => k_is)
    (case co_law_e_let => k_is)
    (case kp_law_e_let => k_is)
    (case at_law_e_falls => k_is)
    (case lk_law_e_falls => k_is)
    (case co_law_e_falls => k_is)
    (case kp_law_e_falls => k_is)
    (case at_law_e_ladder => k_is)
    (case lk_law_e_ladder => k_is)
    (case co_law_e_ladder => k_is)
    (case kp_law_e_ladder => k_is)
    (case at_law_e_low => k_is)
    (case lk_law_e_low => k_is)
    (case co_law_e_low => k_is)
    (case kp_law_e_low => k_is)
    (case at_law_e_loads => k_is)
    (case lk_law_e_loads => k_is)
    (case co_law_e_loads => k_is)
    (case kp_law_e_loads => k_is)
    (case at_law_e_heads => k_is)
    (case lk_law_e_heads => k_is)
    (case co_law_e_heads => k_is)
    (case kp_law_e_heads => k_is)
    (case at_law_e_worths => k_is)
    (case lk_law_e_worths => k_is)
    (case co_law_e_worths => k_is)
    (case kp_law_e_worths => k_is)
    (case at_law_e_sum => k_is)
    (case lk_law_e_sum => k_is)
    (case co_law_e_sum => k_is)
    (case kp_law_e_sum => k_is)
    (case at_law_e_behind => k_is)
    (case lk_law_e_behind => k_is)
    (case co_law_e_behind => k_is)
    (case kp_law_e_behind => k_is)
    (case at_law_stock => k_is)
    (case lk_law_stock => k_is)
    (case co_law_stock => k_is)
    (case kp_law_stock => k_is)
    (case at_law_draw => k_is)
    (case lk_law_draw => k_is)
    (case co_law_draw => k_is)
    (case kp_law_draw => k_is)
    (case at_law_matches => k_is)
    (case lk_law_matches => k_is)
    (case co_law_matches => k_is)
    (case kp_law_matches => k_is)
    (case at_law_k25_counts => k_is)
    (case lk_law_k25_counts => k_is)
    (case co_law_k25_counts => k_is)
    (case kp_law_k25_counts => k_is)
    (case at_law_k25_tellers => k_is)
    (case lk_law_k25_tellers => k_is)
    (case co_law_k25_tellers => k_is)
    (case kp_law_k25_tellers => k_is)
    (case at_law_k25_called => k_is)
    (case lk_law_k25_called => k_is)
    (case co_law_k25_called => k_is)
    (case kp_law_k25_called => k_is)
    (case at_law_k25_meetings => k_is)
    (case lk_law_k25_meetings => k_is)
    (case co_law_k25_meetings => k_is)
    (case kp_law_k25_meetings => k_is)
    (case at_law_k25_fault => k_is)
    (case lk_law_k25_fault => k_is)
    (case co_law_k25_fault => k_is)
    (case kp_law_k25_fault => k_is)
    (case at_law_k25_bent => k_is)
    (case lk_law_k25_bent => k_is)
    (case co_law_k25_bent => k_is)
    (case kp_law_k25_bent => k_is)
    (case vc_law_k25_bent => k_is)
    (case v11_law_k25_bent => rfl)
    (case hc_law_k25_bent => first | k_is | kernel_rfl | rfl)
    (case nT_law_k25_bent => first | k_is | kernel_rfl | rfl)
    (case tb_law_k25_bent => exact PySem.W.km_tabs_of Y _ (by k_mem))
    (case at_law_k25_moves => k_is)
    (case lk_law_k25_moves => k_is)
    (case co_law_k25_moves => k_is)
    (case kp_law_k25_moves => k_is)
    (case vc_law_k25_moves => k_is)
    (case v11_law_k25_moves => rfl)
    (case hc_law_k25_moves => first | k_is | kernel_rfl | rfl)
    (case nT_law_k25_moves => first | k_is | kernel_rfl | rfl)
    (case tb_law_k25_moves => exact PySem.W.km_tabs_of Y _ (by k_mem))
    (case at_law_k25_rungs_refused => k_is)
    (case lk_law_k25_rungs_refused => k_is)
    (case co_law_k25_rungs_refused => k_is)
    (case kp_law_k25_rungs_refused => k_is)
    (case vc_law_k25_rungs_refused => k_is)
    (case v11_law_k25_rungs_refused => rfl)
    (case hc_law_k25_rungs_refused => first | k_is | kernel_rfl | rfl)
    (case nT_law_k25_rungs_refused => first | k_is | kernel_rfl | rfl)
    (case tb_law_k25_rungs_refused => exact PySem.W.km_tabs_of Y _ (by k_mem))
    (case at_law => k_is)
    (case lk_law => k_is)
    (case co_law => k_is)
    (case kp_law => k_is)
    (case ne_law_k25_moves_law_k25_bent => decide)
    (case ne_law_k25_rungs_refused_law_k25_bent => decide)
    (case ne_law_k25_rungs_refused_law_k25_moves => decide)
#print axioms PySem.Challenge.cw_whoeverwins_k25_tables_and_what_a_meetin_holds

