import PyProof.Rows.All
import Wide.All
import OpenK.AllK
import Wide.FinOn
import HandS.ForMost
import HandS.ForExc
import HandS.Wide
import HandS.StrMore
import HandS.StrSplit
import HandS.IsInst
import HandS.WrittenGet
import HandS.Walk
import HandS.Codes
import HandS.ExcInit
import HandS.Exc
import HandS.ExcOwn
import HandS.ExcField
import HandS.WordsExc
import HandS.NoneIn
import HandS.RevRange
import HandS.Zip
import HandS.HotCalls
import HandS.ExcInitHot
import PySem.Challenge.RW_whoeverwins_k04_lines_and_their_checks
set_option Elab.async false
set_option linter.all false
set_option maxRecDepth 100000
set_option maxHeartbeats 4000000
set_option Elab.async false
set_option linter.all false
set_option maxRecDepth 100000
set_option maxHeartbeats 4000000
namespace Rl
open PySem PySem.Spec PyProof.Rows L2

section
variable {X : Cx}
/-- xs[i] of a list, for an augmented store -/
theorem get_list : PGet X (rIxL X.K) := by
  intro pins s σ H x y v u Q I rx ry h
  obtain ⟨p, xs, i, z, rfl, rfl, hq, he, q⟩ := h
  cases rx
  obtain ⟨t, rfl⟩ := ry
  obtain ⟨its, r, pl, hz⟩ := I.list hq
  obtain ⟨j, h1, h2, h3, h4, h5⟩ := atI_get he
  obtain ⟨w, ew, rw'⟩ := r.get h2
  have hl := r.length
  have hn := line63
  have fin : EP X pins σ Q w s := ⟨z, H, I, rw', q⟩
  by_cases h0 : 0 ≤ i
  · have hj : i.toNat = j := by
      rw [seqIndex_of h0 h5] at h1
      exact Option.some.inj h1
    exact wpAny_getItem_list pl.isList h0 (by omega) (by rw [hj]; simpa using ew) fin
  · have hj : (i + (its.toArray.size : Int)).toNat = j := by
      rw [seqIndex_neg (by omega) h4] at h1
      rw [List.size_toArray, ← hl]
      exact Option.some.inj h1
    exact wpAny_getItem_list_neg pl.isList (by omega) (by rw [List.size_toArray] <;> omega) (by omega) (by rw [hj]; simpa using ew) fin
end

/-! enumerate of a text -/
def ItS (x : Str) : It :=
  ⟨fun i _ => i < x.cps.size, fun i H v H' => ∃ T c, v = .ref T ∧ H T = none ∧ H' = upd H T (.tup [.int (i : Nat), .str ⟨#[c]⟩]) ∧ x.cps[i]? = some c, fun i _ => x.cps.size ≤ i⟩
theorem drawsS {P : Program} {w : World} {A : Around} (hh : A.handled = none) (it : Addr) (x : Str) (t : Tok) :
    PySem.Draws P w A it [it] x.cps.size (fun i v => ∃ c u, x.cps[i]? = some c ∧ v = .str ⟨#[c]⟩ u) (fun i h => h.IsStrIter it (strIterType x) x t i) := by
  unfold strIterType
  cases x.cps.all (· < 128)
  · exact Draws.strWide hh it x t
  · exact Draws.strAscii hh it x t
theorem turn_enumS {P : Program} {w : World} {K : PySem.W.Frag} {elts : List Expr} {kk : Nat} {tpos : Pos} (x : Str) (t : Tok) (e it : Addr) :
    Turn P w K (.Tuple elts kk tpos) (ItS x) [e, it] e (fun i h => (∃ old, IsEnum h e it ((i : Nat) : Int) old) ∧ h.IsStrIter it (strIterType x) x t i ∧ e ≠ it ∧ i ≤ x.cps.size) where
  mem := by simp
  obj := fun i h st b hb => by
    obtain ⟨⟨old, he⟩, ⟨o, ho, hc, hd⟩, _, _⟩ := st
    have e' : b = e ∨ b = it := by simpa using hb
    rcases e' with z | z
    · rw [z]; exact ⟨_, he, fun v q => nomatch q⟩
    · rw [z]; exact ⟨o, ho, fun v q => by rw [hd] at q; cases q⟩
  keep := fun i h h' st k => let ⟨⟨old, he⟩, hi, hne⟩ := st; ⟨⟨old, k e (by simp) _ he⟩, let ⟨o, ho, r⟩ := hi; ⟨o, k it (by simp) o ho, r⟩, hne⟩
  item := by
    intro X hP hw hK hc i pins s σ H E I hf st hg
    subst hP hw hK
    obtain ⟨⟨old, he⟩, hit, hne, hle⟩ := st
    have hel : e < s.heap.objs.size := Heap.lt_size he
    have hil : it < s.heap.objs.size := by obtain ⟨_, q, _⟩ := hit; exact Heap.lt_size q
    have D := drawsS (P := X.prog) (w := X.w) (A := X.A.in1) (I.ok.hd hc) it x t
    refine wpAny_pyNext_enum_itemD D he hit hg hne (by simpa using hne) fun y h' tk hP ho hit' hT hsz hk => ?_
    obtain ⟨c, u, hcx, rfl⟩ := hP
    refine ⟨_, rfl, wpAny_letOwnedTupleGo_enum (s := { s with heap := h', toks := tk + 1 }) ho fun h'' he' sb => ?_⟩
    have hT2 : h''.get? s.heap.objs.size = some { cls := .type "tuple", data := .seq #[.int i tk, .str ⟨#[c]⟩ u] } := (sb.2 _ (Nat.ne_of_gt hel)).trans hT
    have new : ObjOk X.prog X.w (upd H s.heap.objs.size (.tup [.int (i : Nat), .str ⟨#[c]⟩])) h'' s.heap.objs.size (.tup [.int (i : Nat), .str ⟨#[c]⟩]) :=
      ⟨by show 2 ≤ sizeLine; decide, [.int i tk, .str ⟨#[c]⟩ u], .cons ⟨_, rfl⟩ (.cons ⟨_, rfl⟩ .nil), ⟨_, hT2, rfl, _, rfl⟩⟩
    have I1 : Inv X pins σ (upd H s.heap.objs.size (.tup [.int (i : Nat), .str ⟨#[c]⟩])) { s with heap := h'', toks := tk + 1 } :=
      I.turnedNew (ch := [e, it]) (fun b ob hb q => (sb.2 b (fun z => hb (by simp [z]))).trans (hk b ob (fun z => hb (by simp [z])) (fun z => hb (by simp [z])) q)) hf (Nat.le_refl _) new
    refine ⟨.ref s.heap.objs.size, _, I1, rfl, ⟨_, c, rfl, I.hok.fresh (Nat.le_refl _), rfl, hcx⟩, ⟨⟨.str ⟨#[c]⟩ u, ?_⟩, ?_, hne, hg⟩, fun b hb => ?_⟩
    · have e1 : ((i + 1 : Nat) : Int) = (i : Int) + 1 := by omega
      rw [e1]; exact he'
    · obtain ⟨o, ho', r⟩ := hit'
      exact ⟨o, (sb.2 it (Ne.symm hne)).trans ho', r⟩
    · have hb' : b < s.heap.objs.size := by
        have e' : b = e ∨ b = it := by simpa using hb
        rcases e' with z | z
        · rw [z]; exact hel
        · rw [z]; exact hil
      rw [upd_ne (Nat.ne_of_lt hb')]
      exact (hf b hb).1
  done := by
    intro X hP hw hK hc i pins s σ H E I hf st hg
    subst hP hw hK
    obtain ⟨⟨old, he⟩, hit, hne, hle⟩ := st
    obtain ⟨f0, f1, f2, f3, f4, f5⟩ := hf it (by simp)
    have D := drawsS (P := X.prog) (w := X.w) (A := X.A.in1) (I.ok.hd hc) it x t
    have hge : x.cps.size ≤ i := hg
    have e1 : i = x.cps.size := Nat.le_antisymm hle hge
    subst e1
    exact wpAny_pyNext_enum_endD D he hit fun h' eb => ⟨rfl, I.turned (t' := s.toks) (fun b o hb q => eb b o hb q) f0 f1 f3 f4 f5⟩
  self := fun A i s Q E st h => let ⟨⟨_, he⟩, _⟩ := st; wpAny_pyIter_enum he h
def iEnumS (ta : TA) : TI := fun σ H R => ta σ H fun vs H1 => ∃ x, vs = [.str x] ∧ R (ItS x) H1
theorem pi_enumS {X : Cx} {e : Expr} {ta : TA} {p pos tpos : Pos} {elts : List Expr} {kk : Nat} (hg : Gl X "enumerate") (hm : X.mg "enumerate" = none) (ha : PA X [e] ta) (hs : starEach [e] X.env = [(false, eval e X.env)] := by rfl) :
    PI X (.Tuple elts kk tpos) (.Call (.Name "enumerate" p) [e] [] pos) (iEnumS ta) := by
  refine ⟨fun pins s σ H R I h => ?_⟩
  refine Call_ (ld_blt I hg hm boot_enumerate (PyProof.Rows.callWith_type1 (thn (ha.run pos pins s σ H _ I h) fun us s1 ⟨vs, H1, I1, r1, q1⟩ => ?_) hs rfl))
  obtain ⟨x, ex, q⟩ := q1
  subst ex
  cases r1 with
  | cons r rr =>
    cases rr
    obtain ⟨t, rfl⟩ := r
    refine call_enumerate_str fun h' he hit hsz hk => wpAny_pyIter_enum he ?_
    have I2 : Inv X pins σ H1 { s1 with heap := h' } := I1.kept (t' := s1.toks) hk
    refine ⟨s1.heap.objs.size + 1, [s1.heap.objs.size + 1, s1.heap.objs.size], _, _, H1, rfl, I2, turn_enumS x t (s1.heap.objs.size + 1) s1.heap.objs.size, ⟨⟨.none, he⟩, hit, Nat.succ_ne_self _, Nat.zero_le _⟩, fun b hb => ?_, q⟩
    have e' : b = s1.heap.objs.size + 1 ∨ b = s1.heap.objs.size := by simpa using hb
    have hle : s1.heap.objs.size ≤ b := by
      rcases e' with z | z
      · rw [z]; exact Nat.le_add_right _ _
      · rw [z]; exact Nat.le_refl _
    exact I1.fpOk hle (I1.hok.fresh hle)
end Rl

set_option Elab.async false
set_option linter.all false
set_option maxRecDepth 100000
set_option maxHeartbeats 4000000
namespace Eg
open PySem PySem.Spec PyProof.Rows L2 Rl

/-! operators by values, every kind that the texts use -/
def uAdd (K : PySem.W.Frag) : R2 := fun x y H Q => rI0 (fun i j => .int (i + j)) x y H Q ∨ (∃ i j, x = .str i ∧ y = .str j ∧ i.length + j.length ≤ sizeLine ∧ Q (.str (i ++ j)) H) ∨ rCat x y H Q ∨ rCatT K x y H Q
def uMul : R2 := rI (fun i j => CMul i j ∨ CMulW i j) fun i j => .int (i * j)
def uDiv : R2 := rI (fun i j => CDiv i j ∨ CDivW i j) fun i j => .int (i / j)
def uEq (K : PySem.W.Frag) : R2 := fun x y H Q => rEq x y H Q ∨ rEqD K x y H Q
def uNe (K : PySem.W.Frag) : R2 := fun x y H Q => rNe x y H Q ∨ rNeD K x y H Q
def uIn (K : PySem.W.Frag) : R2 := fun x y H Q => (∃ (c : Nat) (z : Str), x = .str ⟨#[c]⟩ ∧ y = .str z ∧ Q (.bl (decide (c ∈ z.cps.toList))) H) ∨ rIn K false x y H Q
def uNotIn (K : PySem.W.Frag) : R2 := fun x y H Q => (∃ (c : Nat) (z : Str), x = .str ⟨#[c]⟩ ∧ y = .str z ∧ Q (.bl (!decide (c ∈ z.cps.toList))) H) ∨ rIn K true x y H Q
def uLen (K : PySem.W.Frag) : List V → Hp → VK → Prop := fun xs H Q => ∃ x n, xs = [x] ∧ LenV K x H n ∧ Q (.int n) H
section
variable {X : Cx}
theorem op_uAdd : OpR X (binaryOp .Add) (uAdd X.K) := op_add.or (op_add_str.or (op_cat.or op_catT))
theorem op_uMul : OpR X (binaryOp .Mult) uMul := by
  intro pins s σ H x y v u Q I rx ry h
  obtain ⟨i, j, e1, e2, hc, q⟩ := h
  rcases hc with hc | hc
  · exact op_mul pins s σ H x y v u Q I rx ry ⟨i, j, e1, e2, hc, q⟩
  · exact op_mulW pins s σ H x y v u Q I rx ry ⟨i, j, e1, e2, hc, q⟩
theorem op_uDiv : OpR X (binaryOp .FloorDiv) uDiv := by
  intro pins s σ H x y v u Q I rx ry h
  obtain ⟨i, j, e1, e2, hc, q⟩ := h
  rcases hc with hc | hc
  · exact op_fdiv pins s σ H x y v u Q I rx ry ⟨i, j, e1, e2, hc, q⟩
  · exact op_fdivW pins s σ H x y v u Q I rx ry ⟨i, j, e1, e2, hc, q⟩
theorem op_uEq (hu : X.A.units + 64 < cLine) : OpR X (compareOp .Eq) (uEq X.K) := op_eq.or (op_eqD hu)
theorem op_uNe (hu : X.A.units + 64 < cLine) : OpR X (compareOp .NotEq) (uNe X.K) := op_ne.or (op_neD hu)
theorem op_uIn : OpR X (compareOp .In) (uIn X.K) := op_in_sign.or op_in_seq
theorem op_uNotIn : OpR X (compareOp .NotIn) (uNotIn X.K) := op_notIn_sign.or op_notIn_seq
theorem call_uLen : CallR X (.builtin "len") (uLen X.K) := call_len
def uInt : List V → Hp → VK → Prop := fun xs H Q => ((∃ i, xs = [.int i] ∧ Q (.int i) H) ∨ ∃ k, xs = [.bl k] ∧ Q (.int (if k then 1 else 0)) H) ∨ ∃ a n, xs = [.str a] ∧ PySem.intText? a = some n ∧ a.length ≤ 640 ∧ Q (.int n) H
theorem call_uInt : CallR X (.type "int") uInt := call_int1.or call_int_str
def uSl (K : PySem.W.Frag) : V → Option Int → Option Int → Hp → VK → Prop := fun x lo hi H Q => rSlL K x lo hi H Q ∨ rSlT K x lo hi H Q ∨ rSlS x lo hi H Q
theorem sl_u : SlR X (uSl X.K) := sl_list.or (sl_tup.or sl_str)
def uTru (K : PySem.W.Frag) (t : TE) : TT := fun σ H Q => t σ H fun x H1 => ∃ k, TruV K x H1 k ∧ Q k H1
end

/-! a def of the text, called by its name; a method -/
structure Dfn (P : Program) (w : World) (K : PySem.W.Frag) (mg : Str → Option Value) (base : Heap) (k : Nat) (x : Str) (ps : List Str) (sp : Sp) : Prop where
  ex : ∃ (f : Addr) (fd : FuncData), FnOk P w K mg base CX0 k f fd ps sp ∧ mg x = some (.ref f) ∧ PySem.W.keepIn K (.ref f) = true ∧ Binds K fd ps []
structure Mth (P : Program) (w : World) (K : PySem.W.Frag) (mg : Str → Option Value) (base : Heap) (k : Nat) (C : Addr) (x : Str) (ps : List Str) (sp : Sp) : Prop where
  ex : ∃ (f : Addr) (fd : FuncData), FnOk P w K mg base CX0 k f fd ps sp ∧ Meth K C x f ∧ Binds K fd ps []
  cl : Cls K C
structure Ini (P : Program) (w : World) (K : PySem.W.Frag) (mg : Str → Option Value) (base : Heap) (k : Nat) (x : Str) (C : Addr) (ps : List Str) (sp : Sp) : Prop where
  ex : ∃ (f : Addr) (fd : FuncData), FnOk P w K mg base CX0 k f fd ps sp ∧ Mk K C f ∧ mg x = some (.ref C) ∧ Binds K fd ps []
section
variable {X : Cx} {k : Nat} {x : Str} {ps : List Str} {sp : Sp} {p pos : Pos} {e : Expr} {es : List Expr} {t : TA} {C : Addr}
theorem pe_dfn (D : Dfn X.prog X.w X.K X.mg X.base k x ps sp) (hr : Room k X.A) (hg : Gl X x) (ha : PA X (e :: es) t)
    (hdb : (x == ("__debug__" : Str)) = false := by decide) (he : starEach (e :: es) X.env = (false, eval e X.env) :: starEach es X.env := by rfl) (hpl : (backTo pos (starEach es X.env)).any (·.1) = false := by rfl) :
    PE X (.Call (.Name x p) (e :: es) [] pos) (tCall sp [] E0 t) := by
  obtain ⟨f, fd, F, hm, hk, hb⟩ := D.ex
  exact pe_call F hr hg hm hk hb .nil pass0 ha hdb he hpl
theorem pe_dfn0 (D : Dfn X.prog X.w X.K X.mg X.base k x ps sp) (hr : Room k X.A) (hg : Gl X x)
    (hdb : (x == ("__debug__" : Str)) = false := by decide) :
    PE X (.Call (.Name x p) [] [] pos) (tCall sp [] E0 tNil) := by
  obtain ⟨f, fd, F, hm, hk, hb⟩ := D.ex
  exact pe_call0 F hr hg hm hk hb .nil pass0 hdb
variable {o : Expr} {apos : Pos} {m : Str} {ta : TE}
theorem pe_mth (D : Mth X.prog X.w X.K X.mg X.base k C m ps sp) (hr : Room k X.A) {pl : Sem Bool} (he : PE X o ta) (ha : PA X (e :: es) t)
    (hst : starEach (e :: es) X.env = (false, eval e X.env) :: starEach es X.env := by rfl) (hpl : (backTo pos (starEach es X.env)).any (·.1) = false := by rfl)
    (ht : eval (.Call (.Attribute o m apos) (e :: es) [] pos) X.env = (do
      let ov ← eval o X.env
      standAt apos.atName
      let (f, first) ← holding [ov] (getMethod ov m pl)
      callWith pos f first (backTo pos (starEach (e :: es) X.env)) (backToKw pos (keywordEach [] X.env))) := by rfl) :
    PE X (.Call (.Attribute o m apos) (e :: es) [] pos) (tMeth C m sp [] E0 ta t) := by
  obtain ⟨f, fd, F, hm, hb⟩ := D.ex
  exact pe_meth he D.cl hm F hr hb .nil pass0 ha hst hpl ht
theorem pe_mth0 (D : Mth X.prog X.w X.K X.mg X.base k C m ps sp) (hr : Room k X.A) {pl : Sem Bool} (he : PE X o ta)
    (ht : eval (.Call (.Attribute o m apos) [] [] pos) X.env = (do
      let ov ← eval o X.env
      standAt apos.atName
      let (f, first) ← holding [ov] (getMethod ov m pl)
      callWith pos f first (backTo pos (starEach [] X.env)) (backToKw pos (keywordEach [] X.env))) := by rfl) :
    PE X (.Call (.Attribute o m apos) [] [] pos) (tMeth C m sp [] E0 ta tNil) := by
  obtain ⟨f, fd, F, hm, hb⟩ := D.ex
  exact pe_meth0 he D.cl hm F hr hb .nil pass0 ht
theorem pe_ini (D : Ini X.prog X.w X.K X.mg X.base k x C ps sp) (hr : Room (k + 1) X.A) (hg : Gl X x) (ha : PA X (e :: es) t)
    (hdb : (x == ("__debug__" : Str)) = false := by decide) (he : starEach (e :: es) X.env = (false, eval e X.env) :: starEach es X.env := by rfl) (hpl : (backTo pos (starEach es X.env)).any (·.1) = false := by rfl) :
    PE X (.Call (.Name x p) (e :: es) [] pos) (tMake C sp [] E0 t) := by
  obtain ⟨f, fd, F, M, hm, hb⟩ := D.ex
  exact pe_make M F hr hg hm hb .nil pass0 ha hdb he hpl
/-- a module's constant -/
theorem pe_gi {n : Int} (h : ∃ t, X.mg x = some (.int n t)) (hg : Gl X x := by rfl) (hd : (x == ("__debug__" : Str)) = false := by decide) : PE X (.Name x p) (tC (.int n)) := by
  obtain ⟨t, h⟩ := h
  exact pe_glob (v := .int n) hg h ⟨_, rfl⟩ hd
theorem pe_gs {z : Str} (h : ∃ t, X.mg x = some (.str z t)) (hg : Gl X x := by rfl) (hd : (x == ("__debug__" : Str)) = false := by decide) : PE X (.Name x p) (tC (.str z)) := by
  obtain ⟨t, h⟩ := h
  exact pe_glob (v := .str z) hg h ⟨_, rfl⟩ hd
theorem pe_gr {a : Addr} (h : X.mg x = some (.ref a)) (hg : Gl X x := by rfl) (hd : (x == ("__debug__" : Str)) = false := by decide) : PE X (.Name x p) (tC (.ref a)) := pe_glob (v := .ref a) hg h rfl hd
theorem pt_u (ha : PE X o ta) (he : ∀ whole, isTrue o X.env whole = (do let v ← whole; standAt o.pos; holding [v] (truthy v)) := by intro _; rfl) : PT X o (uTru X.K ta) := pt_truth ha he
end

/-! stepping through a reading -/
section
variable {K : PySem.W.Frag} {σ : L2.St} {H : Hp} {ta tb te tl th : TE} {t u : TT} {x y z v : V} {D : Ends} {tu tw tz : TS} {tr : TA} {Q : VK} {E : XK} {r : R2} {i j : Nat} {g : TG}
theorem i_var (h : σ[i]? = some (some v)) (k : Q v H) : tVar i σ H Q := ⟨v, h, k⟩
theorem i_c (k : Q v H) : tC v σ H Q := k
theorem i_op (k : ta σ H fun x H1 => tb σ H1 fun y H2 => r x y H2 Q) : tOp r ta tb σ H Q := k
theorem i_un {r : V → Hp → VK → Prop} (k : ta σ H fun x H1 => r x H1 Q) : tUn r ta σ H Q := k
theorem i_nil {Q : List V → Hp → Prop} (k : Q [] H) : tNil σ H Q := k
theorem i_cons {Q : List V → Hp → Prop} (k : te σ H fun x H1 => tr σ H1 fun xs H2 => Q (x :: xs) H2) : tCons te tr σ H Q := k
theorem i_tup (k : tr σ H fun xs H1 => xs.length ≤ sizeLine ∧ ∀ p, H1 p = none → Q (.ref p) (upd H1 p (.tup xs))) : tTup tr σ H Q := k
theorem i_lst (k : tr σ H fun xs H1 => xs.length ≤ sizeLine ∧ ∀ p, H1 p = none → Q (.ref p) (upd H1 p (.lst xs))) : tLst tr σ H Q := k
theorem i_cb {r : List V → Hp → VK → Prop} (k : tr σ H fun vs H1 => r vs H1 Q) : tCB r tr σ H Q := k
theorem i_call {sp : Sp} (k : tr σ H fun vs H1 => sp vs H1 Q E) : tCall sp [] E tr σ H Q := by
  unfold tCall
  simp only [List.append_nil]
  exact k
def gMeth (C : Addr) (m : Str) (sp : Sp) (E : XK) (t : TA) (x : V) (σ : L2.St) (H : Hp) (Q : VK) : Prop := ∃ a dx fs, x = .ref a ∧ H a = some (.ins C dx fs) ∧ fs.lookup m = none ∧ t σ H fun vs H2 => sp (x :: vs) H2 Q E
theorem i_meth {C : Addr} {m : Str} {sp : Sp} (k : te σ H fun x H1 => gMeth C m sp E tr x σ H1 Q) : tMeth C m sp [] E te tr σ H Q := by
  unfold tMeth
  simp only [List.append_nil]
  exact k
theorem g_meth {C dx a : Addr} {m : Str} {sp : Sp} {fs : List (Str × V)} (h : H a = some (.ins C dx fs)) (l : fs.lookup m = none) (k : tr σ H fun vs H2 => sp (.ref a :: vs) H2 Q E) : gMeth C m sp E tr (.ref a) σ H Q := ⟨a, dx, fs, rfl, h, l, k⟩
def gFld (K : PySem.W.Frag) (f : Str) (x : V) (H : Hp) (Q : VK) : Prop := ∃ a C dx fs v, x = .ref a ∧ H a = some (.ins C dx fs) ∧ Cls K C ∧ NoAttr K C f ∧ fs.lookup f = some v ∧ Q v H
theorem i_fld {f : Str} (k : te σ H fun x H1 => gFld K f x H1 Q) : tFld K te f σ H Q := k
theorem g_fld {C dx a : Addr} {f : Str} {fs : List (Str × V)} (h : H a = some (.ins C dx fs)) (c : Cls K C) (n : NoAttr K C f) (l : fs.lookup f = some v) (k : Q v H) : gFld K f (.ref a) H Q := ⟨a, C, dx, fs, v, rfl, h, c, n, l, k⟩
theorem i_make {C : Addr} {sp : Sp} (k : tr σ H fun vs H1 => ∀ x dx, H1 x = none → H1 dx = none → dx ≠ x → sp (.ref x :: vs) (upd (upd H1 dx (.own x)) x (.ins C dx [])) (fun v H2 => v = .non ∧ Q (.ref x) H2) E) : tMake C sp [] E tr σ H Q := by
  unfold tMake
  simp only [List.append_nil]
  exact k
theorem i_if (k : t σ H fun c H1 => if c = true then ta σ H1 Q else tb σ H1 Q) : tIf t ta tb σ H Q := k
theorem i_sl {r : V → Option Int → Option Int → Hp → VK → Prop} {tl th : TO} (k : te σ H fun x H1 => tl σ H1 fun l H2 => th σ H2 fun u H3 => r x l u H3 Q) : tSl r te tl th σ H Q := k
theorem i_nopart {Q : Option Int → Hp → Prop} (k : Q none H) : tNoPart σ H Q := k
def gPart (x : V) (H : Hp) (Q : Option Int → Hp → Prop) : Prop := ∃ i, x = .int i ∧ Q (some i) H
theorem i_part {Q : Option Int → Hp → Prop} (k : te σ H fun x H1 => gPart x H1 Q) : tPart te σ H Q := k
theorem g_part {n : Int} {Q : Option Int → Hp → Prop} (k : Q (some n) H) : gPart (.int n) H Q := ⟨n, rfl, k⟩
/- tests -/
def gB (x : V) (H : Hp) (Q : Bool → Hp → Prop) : Prop := ∃ k, x = .bl k ∧ Q k H
theorem i_test {Q : Bool → Hp → Prop} (k : te σ H fun x H1 => gB x H1 Q) : tTest te σ H Q := k
theorem i_tB {Q : Bool → Hp → Prop} (k : te σ H fun x H1 => gB x H1 Q) : tB te σ H Q := k
theorem g_b {b : Bool} {Q : Bool → Hp → Prop} (k : Q b H) : gB (.bl b) H Q := ⟨b, rfl, k⟩
def gTru (K : PySem.W.Frag) (x : V) (H : Hp) (Q : Bool → Hp → Prop) : Prop := ∃ k, TruV K x H k ∧ Q k H
theorem i_tru {Q : Bool → Hp → Prop} (k : te σ H fun x H1 => gTru K x H1 Q) : uTru K te σ H Q := k
theorem g_truB {b : Bool} {Q : Bool → Hp → Prop} (k : Q b H) : gTru K (.bl b) H Q := ⟨b, rfl, k⟩
theorem i_and {Q : Bool → Hp → Prop} (k : t σ H fun c H1 => if c = true then u σ H1 Q else Q false H1) : tAnd t u σ H Q := k
theorem i_or {Q : Bool → Hp → Prop} (k : t σ H fun c H1 => if c = true then Q true H1 else u σ H1 Q) : tOr t u σ H Q := k
theorem i_not {Q : Bool → Hp → Prop} (k : t σ H fun c H1 => Q (!c) H1) : tNot t σ H Q := k
def gAndV (tb : TE) (x : V) (σ : L2.St) (H : Hp) (Q : VK) : Prop := ∃ c, x = .bl c ∧ if c = true then tb σ H Q else Q (.bl false) H
def gOrV (tb : TE) (x : V) (σ : L2.St) (H : Hp) (Q : VK) : Prop := ∃ c, x = .bl c ∧ if c = true then Q (.bl true) H else tb σ H Q
def gNotV (x : V) (H : Hp) (Q : VK) : Prop := ∃ c, x = .bl c ∧ Q (.bl (!c)) H
theorem i_andV (k : ta σ H fun x H1 => gAndV tb x σ H1 Q) : tAndV ta tb σ H Q := k
theorem i_orV (k : ta σ H fun x H1 => gOrV tb x σ H1 Q) : tOrV ta tb σ H Q := k
theorem i_notV (k : ta σ H fun x H1 => gNotV x H1 Q) : tNotV ta σ H Q := k
theorem g_andV {c : Bool} (k : if c = true then tb σ H Q else Q (.bl false) H) : gAndV tb (.bl c) σ H Q := ⟨c, rfl, k⟩
theorem g_orV {c : Bool} (k : if c = true then Q (.bl true) H else tb σ H Q) : gOrV tb (.bl c) σ H Q := ⟨c, rfl, k⟩
theorem g_notV {c : Bool} (k : Q (.bl (!c)) H) : gNotV (.bl c) H Q := ⟨c, rfl, k⟩
/- statements -/
theorem i_next (k : D.nx σ H) : tNext D σ H := k
theorem i_seq {a c d : L2.St → Hp → Prop} {b : VK} (k : tu ⟨tz ⟨a, b, c, d⟩, b, c, d⟩ σ H) : tSeq tu tz ⟨a, b, c, d⟩ σ H := k
theorem i_seqN {a c d : L2.St → Hp → Prop} {b : VK} (k : ∀ N : L2.St → Hp → Prop, (∀ σ' H', tz ⟨a, b, c, d⟩ σ' H' → N σ' H') → tu ⟨N, b, c, d⟩ σ H) : tSeq tu tz ⟨a, b, c, d⟩ σ H := k _ fun _ _ h => h
theorem t_nx {N M : L2.St → Hp → Prop} (h : ∀ σ' H', M σ' H' → N σ' H') (k : M σ H) : N σ H := h _ _ k
theorem i_asg (k : te σ H fun x H1 => g x σ H1 D.nx) : tAsg te g D σ H := k
theorem i_name {Q : L2.St → Hp → Prop} {σ' : L2.St} (e : σ.set i (some v) = σ') (k : Q σ' H) : gName i v σ H Q := by
  subst e
  exact k
theorem i_drop (k : te σ H fun _ H1 => D.nx σ H1) : tDrop te D σ H := k
theorem i_ret (k : te σ H D.rt) : tRet te D σ H := k
theorem i_retN (k : D.rt .non H) : tRetN D σ H := k
theorem i_ifS (k : t σ H fun b H1 => if b = true then tu D σ H1 else tw D σ H1) : tIfS t tu tw D σ H := k
theorem i_aug {ti : TIp} (h : σ[i]? = some (some x)) (k : te σ H fun y H1 => ti x y H1 fun z H2 => D.nx (σ.set i (some z)) H2) : tAug i te ti D σ H := ⟨x, h, k⟩
theorem g_ipI {f : Int → Int → Int} {m n : Int} (k : Q (.int (f m n)) H) : ipI f (.int m) (.int n) H Q := ⟨m, n, rfl, rfl, k⟩
theorem i_augS {to ti : TE} {tget : V → V → Hp → VK → Prop} {tip : TIp} {tset : TSet} (k : to σ H fun o H1 => ti σ H1 fun i H2 => tget o i H2 fun x H3 => te σ H3 fun y H4 => tip x y H4 fun z H5 => tset o i z H5 fun H6 => D.nx σ H6) : tAugS to ti te tget tip tset D σ H := k
def gSfld (K : PySem.W.Frag) (f : Str) (x y : V) (H : Hp) (Q : Hp → Prop) : Prop := ∃ a C dx fs, x = .ref a ∧ H a = some (.ins C dx fs) ∧ Cls K C ∧ NoAttr K C f ∧ fs.length < 1000 ∧ Q (upd H a (.ins C dx (putF f y fs)))
theorem i_sub {to ti : TE} {t : TSet} {Q : L2.St → Hp → Prop} (k : to σ H fun o H1 => ti σ H1 fun i H2 => t o i v H2 fun H3 => Q σ H3) : gSub to ti t v σ H Q := k
theorem p_nx {a c d : L2.St → Hp → Prop} {b : VK} (k : a σ H) : Ends.nx ⟨a, b, c, d⟩ σ H := k
theorem p_bk {a c d : L2.St → Hp → Prop} {b : VK} (k : c σ H) : Ends.bk ⟨a, b, c, d⟩ σ H := k
theorem p_ct {a c d : L2.St → Hp → Prop} {b : VK} (k : d σ H) : Ends.ct ⟨a, b, c, d⟩ σ H := k
theorem p_rt {a c d : L2.St → Hp → Prop} {b : VK} (k : b v H) : Ends.rt ⟨a, b, c, d⟩ v H := k
/- operators -/
theorem g_I0 {g : Int → Int → V} {m n : Int} (k : Q (g m n) H) : rI0 g (.int m) (.int n) H Q := ⟨m, n, rfl, rfl, k⟩
theorem g_I {C : Int → Int → Prop} {g : Int → Int → V} {m n : Int} (c : C m n) (k : Q (g m n) H) : rI C g (.int m) (.int n) H Q := ⟨m, n, rfl, rfl, c, k⟩
theorem g_neg {m : Int} (k : Q (.int (-m)) H) : rU (fun i => .int (-i)) (.int m) H Q := ⟨m, rfl, k⟩
theorem g_addI {m n : Int} (k : Q (.int (m + n)) H) : uAdd K (.int m) (.int n) H Q := .inl ⟨m, n, rfl, rfl, k⟩
theorem g_addS {m n : Str} (c : m.length + n.length ≤ sizeLine) (k : Q (.str (m ++ n)) H) : uAdd K (.str m) (.str n) H Q := .inr (.inl ⟨m, n, rfl, rfl, c, k⟩)
theorem g_addL {a b : Addr} {xs ys : List V} (ha : H a = some (.lst xs)) (hb : H b = some (.lst ys)) (c : xs.length + ys.length ≤ sizeLine) (k : ∀ p, H p = none → Q (.ref p) (upd H p (.lst (xs ++ ys)))) : uAdd K (.ref a) (.ref b) H Q := .inr (.inr (.inl ⟨a, b, xs, ys, rfl, rfl, ha, hb, c, k⟩))
theorem g_mul {m n : Int} (c : CMul m n ∨ CMulW m n) (k : Q (.int (m * n)) H) : uMul (.int m) (.int n) H Q := ⟨m, n, rfl, rfl, c, k⟩
theorem g_div {m n : Int} (c : CDiv m n ∨ CDivW m n) (k : Q (.int (m / n)) H) : uDiv (.int m) (.int n) H Q := ⟨m, n, rfl, rfl, c, k⟩
theorem dec_I {m n : Int} : decide (V.int m = V.int n) = decide (m = n) := by
  by_cases h : m = n
  · subst h; simp
  · rw [decide_eq_false h, decide_eq_false (fun q => h (V.int.inj q))]
theorem dec_S {m n : Str} : decide (V.str m = V.str n) = decide (m = n) := by
  by_cases h : m = n
  · subst h; simp
  · rw [decide_eq_false h, decide_eq_false (fun q => h (V.str.inj q))]
theorem g_eqI {m n : Int} (k : Q (.bl (decide (m = n))) H) : uEq K (.int m) (.int n) H Q := .inl ⟨rfl, by rw [dec_I]; exact k⟩
theorem g_neI {m n : Int} (k : Q (.bl (!decide (m = n))) H) : uNe K (.int m) (.int n) H Q := .inl ⟨rfl, by rw [dec_I]; exact k⟩
theorem g_eqS {m n : Str} (k : Q (.bl (decide (m = n))) H) : uEq K (.str m) (.str n) H Q := .inl ⟨rfl, by rw [dec_S]; exact k⟩
theorem g_neS {m n : Str} (k : Q (.bl (!decide (m = n))) H) : uNe K (.str m) (.str n) H Q := .inl ⟨rfl, by rw [dec_S]; exact k⟩
theorem g_isN (k : Q (.bl (decide (x = .non))) H) : (fun (x y : V) (H : Hp) (Q : VK) => y = .non ∧ Q (.bl (decide (x = .non))) H) x .non H Q := ⟨rfl, k⟩
theorem g_ixL {p : Addr} {xs : List V} {n : Int} (h : SqL K H p xs) (a : atI xs n = some v) (k : Q v H) : rIx K (.ref p) (.int n) H Q := .inl ⟨p, xs, n, v, rfl, rfl, h, a, k⟩
theorem g_ixT {p : Addr} {xs : List V} {n : Int} (h : SqT K H p xs) (a : atI xs n = some v) (k : Q v H) : rIx K (.ref p) (.int n) H Q := .inr (.inl ⟨p, xs, n, v, rfl, rfl, h, a, k⟩)
theorem g_ixS {w : Str} {n : Int} {c : Nat} (h : w.length ≤ sizeLine) (a : atI w.cps.toList n = some c) (k : Q (.str ⟨#[c]⟩) H) : rIx K (.str w) (.int n) H Q := .inr (.inr ⟨w, n, c, rfl, rfl, h, a, k⟩)
theorem g_ixLg {p : Addr} {xs : List V} {n : Int} (h : SqL K H p xs) (a : atI xs n = some v) (k : Q v H) : rIxL K (.ref p) (.int n) H Q := ⟨p, xs, n, v, rfl, rfl, h, a, k⟩
theorem g_setL {p : Addr} {xs ys : List V} {n : Int} {j : Nat} {Q : Hp → Prop} (h : H p = some (.lst xs)) (a : ixN xs.length n = some j) (e : xs.set j v = ys) (k : Q (upd H p (.lst ys))) : rSetL (.ref p) (.int n) v H Q := ⟨p, xs, n, j, rfl, rfl, h, a, by rw [e]; exact k⟩
theorem g_slS {w : Str} {lo hi : Option Int} (h : w.length ≤ sizeLine) (k : Q (.str (cutS w lo hi)) H) : uSl K (.str w) lo hi H Q := .inr (.inr ⟨w, rfl, h, k⟩)
theorem g_slL {p : Addr} {xs : List V} {lo hi : Option Int} (h : SqL K H p xs) (k : ∀ q, H q = none → Q (.ref q) (upd H q (.lst (cutV xs lo hi)))) : uSl K (.ref p) lo hi H Q := .inl ⟨p, xs, rfl, h, k⟩
theorem g_lenL {p : Addr} {xs : List V} (h : SqL K H p xs) (k : Q (.int xs.length) H) : uLen K [.ref p] H Q := ⟨.ref p, xs.length, rfl, .inl ⟨xs, h, rfl⟩, k⟩
theorem g_lenT {p : Addr} {xs : List V} (h : SqT K H p xs) (k : Q (.int xs.length) H) : uLen K [.ref p] H Q := ⟨.ref p, xs.length, rfl, .inr ⟨xs, h, rfl⟩, k⟩
theorem g_lenS {w : Str} (h : w.length ≤ sizeLine) (k : Q (.int w.length) H) : uLen K [.str w] H Q := ⟨.str w, w.length, rfl, ⟨h, rfl⟩, k⟩
theorem g_uInt {m : Int} (k : Q (.int m) H) : uInt [.int m] H Q := .inl (.inl ⟨m, rfl, k⟩)
theorem g_uIntS {a : Str} {n : Int} (h : PySem.intText? a = some n) (c : a.length ≤ 640) (k : Q (.int n) H) : uInt [.str a] H Q := .inr ⟨a, n, rfl, h, c, k⟩
/- branches -/
theorem br {c A B : Prop} [Decidable c] (h1 : c → A) (h2 : ¬ c → B) : if decide c = true then A else B := by
  by_cases h : c
  · rw [if_pos (decide_eq_true h)]; exact h1 h
  · rw [if_neg (by simp [h])]; exact h2 h
theorem brn {c A B : Prop} [Decidable c] (h1 : ¬ c → A) (h2 : c → B) : if (!decide c) = true then A else B := by
  by_cases h : c
  · rw [if_neg (by simp [h])]; exact h2 h
  · rw [if_pos (by simp [h])]; exact h1 h
theorem brB {b : Bool} {A B : Prop} (h1 : b = true → A) (h2 : b = false → B) : if b = true then A else B := by
  cases b
  · rw [if_neg (by simp)]; exact h2 rfl
  · rw [if_pos rfl]; exact h1 rfl
theorem brT {b : Bool} {A B : Prop} (h : b = true) (k : A) : if b = true then A else B := by rw [if_pos h]; exact k
theorem brF {b : Bool} {A B : Prop} (h : b = false) (k : B) : if b = true then A else B := by rw [if_neg (by simp [h])]; exact k
/- a new object; a changed one -/
def Off (a : Addr) (H H' : Hp) : Prop := ∀ b o, b ≠ a → H b = some o → H' b = some o
theorem n_new {o : HO} (c : ∀ p H', H p = none → Same H H' → H' p = some o → Q (.ref p) H') : ∀ p, H p = none → Q (.ref p) (upd H p o) := fun p hp => c p _ hp (fun b u e => by rw [upd_ne (ne_of_none e hp)]; exact e) upd_same
theorem n_size {xs : List V} {A : Prop} (c : xs.length ≤ sizeLine) (k : A) : xs.length ≤ sizeLine ∧ A := ⟨c, k⟩
end
end Eg

set_option Elab.async false
set_option linter.all false
set_option maxRecDepth 100000
set_option maxHeartbeats 4000000
namespace Eg
open PySem PySem.Spec PyProof.Rows L2 Rl SX

/-! loops -/
def gFor (J : It) (g : TG) (tb : TS) (D : Ends) (σ : L2.St) (H : Hp) : Prop := ∃ W : Nat → Nat → L2.St → Hp → Prop, (∃ m, W 0 m σ H) ∧ ∀ i m σ H, W i m σ H →
  (J.stop i H ∧ D.nx σ H) ∨ (J.go i H ∧ ∃ N : L2.St → Hp → Prop, (∀ σ' H', N σ' H' → ∃ m', m' < m ∧ W (i + 1) m' σ' H') ∧ ∀ x H', J.yld i H x H' → g x σ H' fun σ2 H2 => tb { D with nx := N, ct := N, bk := D.nx } σ2 H2)
def gLc (J : It) (g : TG) (tt : TT) (te : TE) (vs : List Nat) (σ : L2.St) (H1 : Hp) (Q : VK) : Prop := ∀ D, H1 D = none → ∃ W : Nat → Nat → Hp → Prop, (∃ m, W 0 m (upd H1 D (.lst []))) ∧ ∀ i m H, W i m H →
  (J.stop i H ∧ Q (.ref D) H) ∨ (J.go i H ∧ ∃ Nx : Hp → Prop, (∀ H', Nx H' → ∃ m', m' < m ∧ W (i + 1) m' H') ∧ ∀ x H', J.yld i H x H' → g x (wipe σ vs) H' fun σ2 H2 => wipe σ2 vs = wipe σ vs ∧ tt σ2 H2 fun b H3 =>
    if b = true then te σ2 H3 fun y H4 => ∃ acc, H4 D = some (.lst acc) ∧ acc.length < sizeLine ∧ Nx (upd H4 D (.lst (acc ++ [y]))) else Nx H3)
section
variable {K : PySem.W.Frag} {σ : L2.St} {H : Hp} {ta tb te tl th : TE} {t u tt : TT} {x y z v : V} {D : Ends} {tu tw tz : TS} {tr : TA} {Q : VK} {E : XK} {r : R2} {i j n : Nat} {g : TG} {wi : TI} {J : It} {vs : List Nat} {R : It → Hp → Prop}
theorem i_for {a b c : L2.St → Hp → Prop} {d : VK} (k : wi σ H fun J H1 => gFor J g tu ⟨a, d, b, c⟩ σ H1) : tFor wi g tu ⟨a, d, b, c⟩ σ H := k
theorem i_lc (k : wi σ H fun J H1 => gLc J g tt te vs σ H1 Q) : tLc wi g tt te vs σ H Q := k
def gIterL (K : PySem.W.Frag) (x : V) (H : Hp) (R : It → Hp → Prop) : Prop := ∃ a, x = .ref a ∧ (∃ xs, SqL K H a xs) ∧ R (Itl K a) H
def gIterT (K : PySem.W.Frag) (x : V) (H : Hp) (R : It → Hp → Prop) : Prop := ∃ a, x = .ref a ∧ (∃ xs, SqT K H a xs) ∧ R (Itt K a) H
def gRng1 (vs : List V) (H : Hp) (R : It → Hp → Prop) : Prop := ∃ j : Int, vs = [.int j] ∧ -(2 ^ 62) ≤ j ∧ j < 2 ^ 62 ∧ R (Itr 0 j.toNat) H
def gRng2 (vs : List V) (H : Hp) (R : It → Hp → Prop) : Prop := ∃ i j : Int, vs = [.int i, .int j] ∧ (-(2 ^ 62) ≤ i ∧ i < 2 ^ 62 ∧ -(2 ^ 62) ≤ j ∧ j < 2 ^ 62) ∧ R (Itr i (j - i).toNat) H
def gEnum (K : PySem.W.Frag) (vs : List V) (H : Hp) (R : It → Hp → Prop) : Prop := ∃ a xs, vs = [.ref a] ∧ SqL K H a xs ∧ R (Ite K a) H
def gEnumS (vs : List V) (H : Hp) (R : It → Hp → Prop) : Prop := ∃ x, vs = [.str x] ∧ R (ItS x) H
def gIterS (x : V) (H : Hp) (R : It → Hp → Prop) : Prop := ∃ z, x = .str z ∧ R (Its z) H
theorem i_iL (k : te σ H fun x H1 => gIterL K x H1 R) : iList K te σ H R := k
theorem i_iT (k : te σ H fun x H1 => gIterT K x H1 R) : iTup K te σ H R := k
theorem i_r1 (k : tr σ H fun vs H1 => gRng1 vs H1 R) : iRng1 tr σ H R := k
theorem i_r2 (k : tr σ H fun vs H1 => gRng2 vs H1 R) : iRng2 tr σ H R := k
theorem i_en (k : tr σ H fun vs H1 => gEnum K vs H1 R) : iEnum K tr σ H R := k
theorem i_eS (k : tr σ H fun vs H1 => gEnumS vs H1 R) : iEnumS tr σ H R := k
theorem i_iS (k : te σ H fun x H1 => gIterS x H1 R) : iStr te σ H R := k
theorem g_iL {a : Addr} {xs : List V} (h : SqL K H a xs) (k : R (Itl K a) H) : gIterL K (.ref a) H R := ⟨a, rfl, ⟨xs, h⟩, k⟩
theorem g_iT {a : Addr} {xs : List V} (h : SqT K H a xs) (k : R (Itt K a) H) : gIterT K (.ref a) H R := ⟨a, rfl, ⟨xs, h⟩, k⟩
theorem g_r1 {m : Int} (c : -(2 ^ 62) ≤ m ∧ m < 2 ^ 62) (k : R (Itr 0 m.toNat) H) : gRng1 [.int m] H R := ⟨m, rfl, c.1, c.2, k⟩
theorem g_r2 {m l : Int} (c : -(2 ^ 62) ≤ l ∧ l < 2 ^ 62 ∧ -(2 ^ 62) ≤ m ∧ m < 2 ^ 62) (k : R (Itr l (m - l).toNat) H) : gRng2 [.int l, .int m] H R := ⟨l, m, rfl, c, k⟩
theorem g_en {a : Addr} {xs : List V} (h : SqL K H a xs) (k : R (Ite K a) H) : gEnum K [.ref a] H R := ⟨a, xs, rfl, h, k⟩
theorem g_eS {w : Str} (k : R (ItS w) H) : gEnumS [.str w] H R := ⟨w, rfl, k⟩
theorem g_iS {w : Str} (k : R (Its w) H) : gIterS (.str w) H R := ⟨w, rfl, k⟩
theorem walk_enumS {w : Str} : Walk (ItS w) w.cps.size (fun _ => True) (YPair (fun i => some (.int (i : Nat))) (fun i => (w.cps[i]?).map fun c => .str ⟨#[c]⟩)) :=
  ⟨fun _ _ hi _ => hi, fun _ _ => Nat.le_refl _, fun i H v H' _ _ y => by
    obtain ⟨T, c, h1, h2, h3, h4⟩ := y
    exact ⟨T, .int (i : Nat), .str ⟨#[c]⟩, h1, h2, h3, rfl, by show Option.map _ (w.cps[i]?) = _; rw [h4]; rfl⟩⟩
/-- a for over anything that walks -/
theorem f_it {G : Hp → Prop} {Y : Nat → Hp → V → Hp → Prop} {a b c : L2.St → Hp → Prop} {d : VK} (w : Walk J n G Y) (Pv : Nat → L2.St → Hp → Prop) (h0 : Pv 0 σ H) (hG : ∀ i σ H, i ≤ n → Pv i σ H → G H)
    (hs : ∀ i x σ H H', i < n → Pv i σ H → Y i H x H' → g x σ H' fun σ2 H2 => tu ⟨Pv (i + 1), d, a, Pv (i + 1)⟩ σ2 H2) (hd : ∀ σ H, Pv n σ H → a σ H) : gFor J g tu ⟨a, d, b, c⟩ σ H := for_it w Pv h0 hG hs hd
/-- a for over range -/
theorem f_rng {lo : Int} {a b c : L2.St → Hp → Prop} {d : VK} (Pv : Nat → L2.St → Hp → Prop) (h0 : Pv 0 σ H)
    (hs : ∀ i σ H, i < n → Pv i σ H → g (.int (lo + i)) σ H fun σ2 H2 => tu ⟨Pv (i + 1), d, a, Pv (i + 1)⟩ σ2 H2) (hd : ∀ σ H, Pv n σ H → a σ H) : gFor (Itr lo n) g tu ⟨a, d, b, c⟩ σ H :=
  f_it walk_range Pv h0 (fun _ _ _ _ _ => trivial) (fun i x σ H H' hi p y => by obtain ⟨e, e2⟩ := y; subst e e2; exact hs i σ _ hi p) hd
/-- a for over a list that stands still -/
theorem f_lst {l : Addr} {xs : List V} {a b c : L2.St → Hp → Prop} {d : VK} (Pv : Nat → L2.St → Hp → Prop) (h0 : Pv 0 σ H) (hl : ∀ i σ H, i ≤ xs.length → Pv i σ H → SqL K H l xs)
    (hs : ∀ i x σ H, xs[i]? = some x → Pv i σ H → g x σ H fun σ2 H2 => tu ⟨Pv (i + 1), d, a, Pv (i + 1)⟩ σ2 H2) (hd : ∀ σ H, Pv xs.length σ H → a σ H) : gFor (Itl K l) g tu ⟨a, d, b, c⟩ σ H :=
  f_it walk_list Pv h0 hl (fun i x σ H H' hi p y => by obtain ⟨e, e2⟩ := y; subst e; exact hs i x σ _ e2 p) hd
theorem f_tup {l : Addr} {xs : List V} {a b c : L2.St → Hp → Prop} {d : VK} (Pv : Nat → L2.St → Hp → Prop) (h0 : Pv 0 σ H) (hl : ∀ i σ H, i ≤ xs.length → Pv i σ H → SqT K H l xs)
    (hs : ∀ i x σ H, xs[i]? = some x → Pv i σ H → g x σ H fun σ2 H2 => tu ⟨Pv (i + 1), d, a, Pv (i + 1)⟩ σ2 H2) (hd : ∀ σ H, Pv xs.length σ H → a σ H) : gFor (Itt K l) g tu ⟨a, d, b, c⟩ σ H :=
  f_it walk_tup Pv h0 hl (fun i x σ H H' hi p y => by obtain ⟨e, e2⟩ := y; subst e; exact hs i x σ _ e2 p) hd
theorem f_str {w : Str} {a b c : L2.St → Hp → Prop} {d : VK} (Pv : Nat → L2.St → Hp → Prop) (h0 : Pv 0 σ H)
    (hs : ∀ i c σ H, w.cps.toList[i]? = some c → Pv i σ H → g (.str (S [c])) σ H fun σ2 H2 => tu ⟨Pv (i + 1), d, a, Pv (i + 1)⟩ σ2 H2) (hd : ∀ σ H, Pv w.cps.toList.length σ H → a σ H) : gFor (Its w) g tu ⟨a, d, b, c⟩ σ H :=
  f_it walk_str Pv h0 (fun _ _ _ _ _ => trivial) (fun i x σ H H' hi p y => by obtain ⟨e, c, e2, e3⟩ := y; subst e e3; exact hs i c σ _ (by simpa using e2) p) hd
theorem f_enumS {w : Str} {a b c : L2.St → Hp → Prop} {d : VK} (Pv : Nat → L2.St → Hp → Prop) (h0 : Pv 0 σ H)
    (hs : ∀ i c σ H T H', w.cps.toList[i]? = some c → Pv i σ H → H T = none → Same H H' → H' T = some (.tup [.int (i : Nat), .str (S [c])]) → g (.ref T) σ H' fun σ2 H2 => tu ⟨Pv (i + 1), d, a, Pv (i + 1)⟩ σ2 H2) (hd : ∀ σ H, Pv w.cps.toList.length σ H → a σ H) : gFor (ItS w) g tu ⟨a, d, b, c⟩ σ H :=
  f_it walk_enumS Pv h0 (fun _ _ _ _ _ => trivial) (fun i x σ H H' hi p y => by
    obtain ⟨T, x1, y1, e1, e2, e3, e4, e5⟩ := y
    subst e1 e3
    cases e4
    replace e5 : Option.map _ (w.cps[i]?) = _ := e5
    cases ec : w.cps[i]? with
    | none => rw [ec] at e5; cases e5
    | some c =>
      rw [ec] at e5
      cases e5
      exact hs i c σ H T _ (by simpa using ec) p e2 (fun b u e => by rw [upd_ne (ne_of_none e e2)]; exact e) upd_same) hd
theorem f_enum {l : Addr} {xs : List V} {a b c : L2.St → Hp → Prop} {d : VK} (Pv : Nat → L2.St → Hp → Prop) (h0 : Pv 0 σ H) (hl : ∀ i σ H, i ≤ xs.length → Pv i σ H → SqL K H l xs)
    (hs : ∀ i x σ H T H', xs[i]? = some x → Pv i σ H → H T = none → Same H H' → H' T = some (.tup [.int (i : Nat), x]) → g (.ref T) σ H' fun σ2 H2 => tu ⟨Pv (i + 1), d, a, Pv (i + 1)⟩ σ2 H2) (hd : ∀ σ H, Pv xs.length σ H → a σ H) : gFor (Ite K l) g tu ⟨a, d, b, c⟩ σ H :=
  f_it walk_enum Pv h0 hl (fun i x σ H H' hi p y => by
    obtain ⟨T, x1, y1, e1, e2, e3, e4, e5⟩ := y
    subst e1 e3
    cases e4
    exact hs i y1 σ H T _ e5 p e2 (fun b u e => by rw [upd_ne (ne_of_none e e2)]; exact e) upd_same) hd
/-- a comprehension over anything that walks; Pv: the new list's address, the turn, what it holds -/
def gItem (Pv : Addr → Nat → List V → Hp → Prop) (D : Addr) (i : Nat) (y : V) (H4 : Hp) : Prop := ∃ acc, H4 D = some (.lst acc) ∧ acc.length < sizeLine ∧ (∃ acc', (upd H4 D (.lst (acc ++ [y]))) D = some (.lst acc') ∧ acc'.length = i + 1 ∧ Pv D (i + 1) acc' (upd H4 D (.lst (acc ++ [y]))))
theorem g_item {Pv : Addr → Nat → List V → Hp → Prop} {D : Addr} {i : Nat} {acc : List V} (h : H D = some (.lst acc)) (l : acc.length = i) (c : i < sizeLine) (k : Pv D (i + 1) (acc ++ [y]) (upd H D (.lst (acc ++ [y])))) : gItem Pv D i y H :=
  ⟨acc, h, by omega, acc ++ [y], upd_same, by simp [l], k⟩
theorem l_it {G : Hp → Prop} {Y : Nat → Hp → V → Hp → Prop} (w : Walk J n G Y) (Pv : Addr → Nat → List V → Hp → Prop) (h0 : ∀ D, H D = none → Pv D 0 [] (upd H D (.lst []))) (hG : ∀ D i acc H', H D = none → i ≤ n → H' D = some (.lst acc) → Pv D i acc H' → G H')
    (hs : ∀ D i x acc H1 H', H D = none → i < n → H1 D = some (.lst acc) → acc.length = i → Pv D i acc H1 → Y i H1 x H' → g x (wipe σ vs) H' fun σ2 H2 => wipe σ2 vs = wipe σ vs ∧ te σ2 H2 (gItem Pv D i))
    (hd : ∀ D acc H', H D = none → H' D = some (.lst acc) → acc.length = n → Pv D n acc H' → Q (.ref D) H') : gLc J g tYes te vs σ H Q := fun D hD =>
  lc_it w (fun i H' => ∃ acc, H' D = some (.lst acc) ∧ acc.length = i ∧ Pv D i acc H') ⟨[], upd_same, rfl, h0 D hD⟩ (fun i H' hi ⟨acc, e, _, p⟩ => hG D i acc H' hD hi e p)
    (fun i x H1 H' hi ⟨acc, e, l, p⟩ y => hs D i x acc H1 H' hD hi e l p y) (fun H' ⟨acc, e, l, p⟩ => hd D acc H' hD e l p)
end
end Eg

set_option Elab.async false
set_option linter.all false
set_option maxRecDepth 100000
set_option maxHeartbeats 4000000
namespace Eg
open PySem PySem.Spec PyProof.Rows L2 Rl SX

theorem Same.put {H H' : Hp} {p : Addr} {o : HO} (e : Same H H') (h : H p = none) : Same H (upd H' p o) := fun b u q => by
  rw [upd_ne (ne_of_none q h)]
  exact e b u q
theorem off_refl (a : Addr) (H : Hp) : Off a H H := fun _ _ _ e => e
theorem Off.upd {a : Addr} {H H' : Hp} {o : HO} (e : Off a H H') : Off a H (upd H' a o) := fun b u hb q => by
  rw [upd_ne hb]
  exact e b u hb q
theorem Off.same {a : Addr} {H H1 H' : Hp} (e : Off a H H1) (s : Same H1 H') : Off a H H' := fun b u hb q => s b u (e b u hb q)
theorem Off.trans {a : Addr} {H H1 H' : Hp} (e : Off a H H1) (s : Off a H1 H') : Off a H H' := fun b u hb q => s b u hb (e b u hb q)
theorem Same.off {a : Addr} {H H1 H' : Hp} (s : Same H H1) (e : Off a H1 H') : Off a H H' := fun b u hb q => e b u hb (s b u q)
theorem off_of {a : Addr} {H H' : Hp} (s : Same H H') : Off a H H' := fun b u _ q => s b u q
/-- a change at what was not there is none -/
theorem Off.new {a : Addr} {H H' : Hp} (e : Off a H H') (h : H a = none) : Same H H' := fun b u q => e b u (ne_of_none q h) q

section
variable {X : Cx}
def uSplit : V → List V → Hp → VK → Prop := fun x xs H Q => ∃ a b, x = .str a ∧ xs = [.str b] ∧ (b.length == 0) = false ∧ a.length + 2 ≤ sizeLine ∧ rNewStrs (Txt.split a b) H Q
theorem mt_uSplit : MtR X "str.split" uSplit := mt_split
def uSplitM : V → List V → Hp → VK → Prop := fun x xs H Q => ∃ (a b : Str) (k : Int), x = .str a ∧ xs = [.str b, .int k] ∧ (b.length == 0) = false ∧ -(2 ^ 63) ≤ k ∧ k < 2 ^ 63 ∧ a.length + 2 ≤ sizeLine ∧ rNewStrs (Txt.splitMax a b k) H Q
theorem mt_uSplitM : MtR X "str.split" uSplitM := mt_splitMax
def uJoin (K : PySem.W.Frag) : V → List V → Hp → VK → Prop := fun x xs H Q => ∃ a p, ∃ ys : List Str, x = .str a ∧ xs = [.ref p] ∧ (SqL K H p (ys.map V.str) ∨ SqT K H p (ys.map V.str)) ∧ (ys.map (·.length)).sum + ys.length * a.length ≤ 16777216 ∧ Q (.str (Txt.join a ys)) H
theorem mt_uJoin : MtR X "str.join" (uJoin X.K) := mt_join
def uCount : V → List V → Hp → VK → Prop := fun x xs H Q => ∃ a b, x = .str a ∧ xs = [.str b] ∧ Q (.int (Txt.count a b)) H
theorem mt_uCount : MtR X "str.count" uCount := mt_count
def uOrd : List V → Hp → VK → Prop := fun xs H Q => ∃ x, xs = [.str x] ∧ x.length = 1 ∧ Q (.int (x.cps.getD 0 0 : Nat)) H
theorem call_uOrd : CallR X (.builtin "ord") uOrd := call_ord
def uAbs : List V → Hp → VK → Prop := fun xs H Q => ∃ i, xs = [.int i] ∧ Q (.int (if i < 0 then -i else i)) H
theorem call_uAbs : CallR X (.builtin "abs") uAbs := call_abs
def uMax2 : List V → Hp → VK → Prop := fun xs H Q => ∃ i j, xs = [.int i, .int j] ∧ Q (.int (if j > i then j else i)) H
theorem call_uMax2 (hc : X.calm = true) : CallR X (.builtin "max") uMax2 := call_max2 hc
def uMin2 : List V → Hp → VK → Prop := fun xs H Q => ∃ i j, xs = [.int i, .int j] ∧ Q (.int (if j < i then j else i)) H
theorem call_uMin2 (hc : X.calm = true) : CallR X (.builtin "min") uMin2 := call_min2 hc
def uStr : List V → Hp → VK → Prop := fun xs H Q => ∃ i : Int, xs = [.int i] ∧ i.natAbs.log2 < 1920 ∧ Q (.str (toString i)) H
theorem call_uStr : CallR X (.type "str") uStr := call_str_int
def uList (K : PySem.W.Frag) : List V → Hp → VK → Prop := fun xs H Q => ∃ p ys, xs = [.ref p] ∧ (SqL K H p ys ∨ SqT K H p ys) ∧ ∀ l, H l = none → Q (.ref l) (upd H l (.lst ys))
theorem call_uList : CallR X (.type "list") (uList X.K) := call_list_of
def uIsN : R2 := fun x y H Q => y = .non ∧ Q (.bl (decide (x = .non))) H
theorem op_uIsN : OpR X (compareOp .Is) uIsN := op_isN
def uNotN : R2 := fun x y H Q => y = .non ∧ Q (.bl (!decide (x = .non))) H
theorem op_uNotN : OpR X (compareOp .IsNot) uNotN := op_notN
end

section
variable {K : PySem.W.Frag} {w : World} {σ : L2.St} {H : Hp} {ta tb te tl th td ty tx : TE} {t u tt : TT} {x y z v : V} {D : Ends} {tu tw tz : TS} {tr : TA} {Q : VK} {E : XK} {r : R2} {i j n : Nat} {g : TG} {vs : List V}
/- methods of built-in types -/
def gBm (K : PySem.W.Frag) (T : String) (r : V → List V → Hp → VK → Prop) (t : TA) (x : V) (σ : L2.St) (H : Hp) (Q : VK) : Prop := tyV K T x H ∧ t σ H fun xs H2 => r x xs H2 Q
theorem i_bm {T : String} {r : V → List V → Hp → VK → Prop} (k : te σ H fun x H1 => gBm K T r tr x σ H1 Q) : tBM K T r te tr σ H Q := k
theorem i_bm0 {T : String} {r : V → List V → Hp → VK → Prop} (k : te σ H fun x H1 => gBm K T r tNil x σ H1 Q) : tBM0 K T r te σ H Q := k
theorem g_bmL {p : Addr} {xs : List V} {r : V → List V → Hp → VK → Prop} (h : SqL K H p xs) (k : tr σ H fun xs H2 => r (.ref p) xs H2 Q) : gBm K "list" r tr (.ref p) σ H Q := ⟨.inl ⟨rfl, xs, h⟩, k⟩
theorem g_bmS {w : Str} {r : V → List V → Hp → VK → Prop} (k : tr σ H fun xs H2 => r (.str w) xs H2 Q) : gBm K "str" r tr (.str w) σ H Q := ⟨rfl, k⟩
theorem g_app {l : Addr} {xs : List V} (h : H l = some (.lst xs)) (c : xs.length < sizeLine) (k : Q .non (upd H l (.lst (xs ++ [y])))) : rAppend (.ref l) [y] H Q := ⟨l, xs, y, rfl, rfl, h, c, k⟩
theorem g_split {a b : Str} (c : (b.length == 0) = false) (d : a.length + 2 ≤ sizeLine) (k : ∀ p H', H p = none → Same H H' → H' p = some (.lst ((Txt.split a b).map V.str)) → Q (.ref p) H') : uSplit (.str a) [.str b] H Q :=
  ⟨a, b, rfl, rfl, c, d, n_new k⟩
theorem g_splitM {a b : Str} {m : Int} (c : (b.length == 0) = false) (e : -(2 ^ 63) ≤ m ∧ m < 2 ^ 63) (d : a.length + 2 ≤ sizeLine) (k : ∀ p H', H p = none → Same H H' → H' p = some (.lst ((Txt.splitMax a b m).map V.str)) → Q (.ref p) H') : uSplitM (.str a) [.str b, .int m] H Q :=
  ⟨a, b, m, rfl, rfl, c, e.1, e.2, d, n_new k⟩
theorem g_join {a : Str} {p : Addr} {ys : List Str} (h : SqL K H p (ys.map V.str)) (c : (ys.map (·.length)).sum + ys.length * a.length ≤ 16777216) (k : Q (.str (Txt.join a ys)) H) : uJoin K (.str a) [.ref p] H Q := ⟨a, p, ys, rfl, rfl, .inl h, c, k⟩
theorem g_count {a b : Str} (k : Q (.int (Txt.count a b)) H) : uCount (.str a) [.str b] H Q := ⟨a, b, rfl, rfl, k⟩
/- built-ins -/
theorem g_ord {c : Nat} (k : Q (.int (c : Int)) H) : uOrd [.str (S [c])] H Q := ⟨S [c], rfl, rfl, k⟩
theorem g_abs {m : Int} (k : Q (.int (if m < 0 then -m else m)) H) : uAbs [.int m] H Q := ⟨m, rfl, k⟩
theorem g_max2 {m l : Int} (k : Q (.int (if l > m then l else m)) H) : uMax2 [.int m, .int l] H Q := ⟨m, l, rfl, k⟩
theorem g_min2 {m l : Int} (k : Q (.int (if l < m then l else m)) H) : uMin2 [.int m, .int l] H Q := ⟨m, l, rfl, k⟩
theorem log2_small {m : Int} (c : m.natAbs < 2 ^ 64) : m.natAbs.log2 < 1920 := Nat.lt_of_lt_of_le (PySem.Flt.log2_lt_of (by decide) c) (by decide)
theorem g_str {m : Nat} (c : m < 2 ^ 64) (k : Q (.str (S (TL.numL m))) H) : uStr [.int (m : Int)] H Q := ⟨(m : Int), rfl, log2_small (by simpa using c), by have e := num_S m; show Q (.str (Str.ofString (toString (m : Int)))) H; rw [e]; exact k⟩
theorem g_list {p : Addr} {xs : List V} (h : SqL K H p xs) (k : ∀ p H', H p = none → Same H H' → H' p = some (.lst xs) → Q (.ref p) H') : uList K [.ref p] H Q := ⟨p, xs, rfl, .inl h, n_new k⟩
theorem g_sum {p : Addr} {ns : List Int} (h : SqL K H p (ns.map V.int)) (k : Q (.int ns.sum) H) : rSum K [.ref p] H Q := ⟨p, ns, rfl, h, k⟩
theorem g_any {p : Addr} {bs : List Bool} (h : SqL K H p (bs.map V.bl)) (k : Q (.bl (bs.any id)) H) : rAny K [.ref p] H Q := ⟨p, bs, rfl, h, k⟩
theorem g_all {p : Addr} {bs : List Bool} (h : SqL K H p (bs.map V.bl)) (k : Q (.bl (bs.all id)) H) : rAll K [.ref p] H Q := ⟨p, bs, rfl, h, k⟩
theorem g_isi {T tn : String} {b : Bool} (h : TyX K H x (.type tn)) (e : kitB tn T = some b) (k : Q (.bl b) H) : rIsi K [x, .ty T] H Q := ⟨x, .ty T, .type tn, .type T, b, rfl, .ty T, h, kit_ty e, k⟩
theorem g_isNN (k : Q (.bl true) H) : uIsN .non .non H Q := ⟨rfl, k⟩
theorem g_isNx (h : x ≠ .non) (k : Q (.bl false) H) : uIsN x .non H Q := ⟨rfl, by rw [decide_eq_false h]; exact k⟩
theorem g_noNN (k : Q (.bl false) H) : uNotN .non .non H Q := ⟨rfl, k⟩
theorem g_noNx (h : x ≠ .non) (k : Q (.bl true) H) : uNotN x .non H Q := ⟨rfl, by rw [decide_eq_false h]; exact k⟩
theorem g_kd {p : Addr} {z : Str} (h : KDct K w p z v) (k : Q v H) : rIxD K w (.ref p) (.str z) H Q := ⟨p, z, v, rfl, rfl, h, k⟩
/- dicts -/
def gDGet2 (ty tx : TE) (x : V) (σ : L2.St) (H : Hp) (Q : VK) : Prop := ∃ a, x = .ref a ∧ IsD H a ∧ ty σ H fun y H2 => tx σ H2 fun z H3 => ∃ o, DGet H3 a y o ∧ Q (o.getD z) H3
def gDG (a : Addr) (y z : V) (H : Hp) (Q : VK) : Prop := ∃ o, DGet H a y o ∧ Q (o.getD z) H
theorem i_dget2 (k : td σ H fun x H1 => gDGet2 ty tx x σ H1 Q) : tDGet2 td ty tx σ H Q := k
theorem g_dget2 {a : Addr} {kvs : List (Key × V)} (h : Rd H a (.dK kvs)) (k : ty σ H fun y H2 => tx σ H2 fun z H3 => gDG a y z H3 Q) : gDGet2 ty tx (.ref a) σ H Q := ⟨a, rfl, .inl ⟨kvs, h⟩, k⟩
theorem g_dg {a : Addr} {s : Str} {kvs : List (Key × V)} (h : Rd H a (.dK kvs)) (k : Q ((valV kvs (.inr s)).getD z) H) : gDG a (.str s) z H Q := ⟨_, .inl ⟨kvs, .inr s, h, rfl, rfl⟩, k⟩
def gDGet (a y : V) (H : Hp) (Q : VK) : Prop := ∃ p v, a = .ref p ∧ DGet H p y (some v) ∧ Q v H
theorem i_dget (k : td σ H fun x H1 => ty σ H1 fun y H2 => gDGet x y H2 Q) : tDGet td ty σ H Q := k
theorem g_dget {a : Addr} {s : Str} {kvs : List (Key × V)} (h : Rd H a (.dK kvs)) (e : valV kvs (.inr s) = some v) (k : Q v H) : gDGet (.ref a) (.str s) H Q := ⟨a, v, rfl, .inl ⟨kvs, .inr s, h, rfl, e.symm⟩, k⟩
def gDPut (a y v : V) (H : Hp) (Q : Hp → Prop) : Prop := ∃ p H', a = .ref p ∧ DPut H p y v H' ∧ Q H'
theorem i_dput {a b c : L2.St → Hp → Prop} {d : VK} (k : tx σ H fun v H1 => td σ H1 fun x H2 => ty σ H2 fun y H3 => gDPut x y v H3 (a σ)) : sDPut td ty tx ⟨a, d, b, c⟩ σ H := k
theorem g_dput {a : Addr} {s : Str} {kvs : List (Key × V)} {Q : Hp → Prop} (h : H a = some (.dK kvs)) (c : kvs.length < sizeLine) (k : Q (upd H a (.dK (putK kvs (.inr s) v)))) : gDPut (.ref a) (.str s) v H Q := ⟨a, _, rfl, .inl ⟨kvs, .inr s, h, rfl, c, rfl⟩, k⟩
theorem i_dnew (k : ∀ p H', H p = none → Same H H' → H' p = some (.dK []) → Q (.ref p) H') : tDNewK σ H Q := n_new k
/- a new tuple, a new list -/
def gNewT (xs : List V) (H : Hp) (Q : VK) : Prop := xs.length ≤ sizeLine ∧ ∀ p, H p = none → Q (.ref p) (upd H p (.tup xs))
def gNewL (xs : List V) (H : Hp) (Q : VK) : Prop := xs.length ≤ sizeLine ∧ ∀ p, H p = none → Q (.ref p) (upd H p (.lst xs))
theorem i_tupN (k : tr σ H fun xs H1 => gNewT xs H1 Q) : tTup tr σ H Q := k
theorem i_lstN (k : tr σ H fun xs H1 => gNewL xs H1 Q) : tLst tr σ H Q := k
theorem g_newT {xs : List V} (c : xs.length ≤ sizeLine) (k : ∀ p H', H p = none → Same H H' → H' p = some (.tup xs) → Q (.ref p) H') : gNewT xs H Q := ⟨c, n_new k⟩
theorem g_newL {xs : List V} (c : xs.length ≤ sizeLine) (k : ∀ p H', H p = none → Same H H' → H' p = some (.lst xs) → Q (.ref p) H') : gNewL xs H Q := ⟨c, n_new k⟩
theorem g_slL' {p : Addr} {xs : List V} {lo hi : Option Int} (h : SqL K H p xs) (k : ∀ q H', H q = none → Same H H' → H' q = some (.lst (cutV xs lo hi)) → Q (.ref q) H') : uSl K (.ref p) lo hi H Q := g_slL h (n_new k)
theorem g_addL' {a b : Addr} {xs ys : List V} (ha : H a = some (.lst xs)) (hb : H b = some (.lst ys)) (c : xs.length + ys.length ≤ sizeLine) (k : ∀ p H', H p = none → Same H H' → H' p = some (.lst (xs ++ ys)) → Q (.ref p) H') : uAdd K (.ref a) (.ref b) H Q := g_addL ha hb c (n_new k)
theorem i_chain {r r' : R2} (k : ta σ H fun x H1 => tb σ H1 fun y H2 => r x y H2 fun z H3 => ∃ k, z = .bl k ∧ (if k = true then te σ H3 fun w' H4 => r' y w' H4 Q else Q (.bl false) H3)) : tChain r r' ta tb te σ H Q := k
/- two ways that meet again -/
theorem jnE {b : Bool} (R : V → Hp → Prop) (hR : ∀ x H', R x H' → Q x H') (h : ∀ Q' : VK, (∀ x H', R x H' → Q' x H') → if b = true then ta σ H Q' else tb σ H Q') : if b = true then ta σ H Q else tb σ H Q := h Q hR
theorem jnA {b : Bool} (R : V → Hp → Prop) (hR : ∀ x H', R x H' → Q x H') (h : ∀ Q' : VK, (∀ x H', R x H' → Q' x H') → if b = true then tb σ H Q' else Q' (.bl false) H) : if b = true then tb σ H Q else Q (.bl false) H := h Q hR
theorem jnO {b : Bool} (R : V → Hp → Prop) (hR : ∀ x H', R x H' → Q x H') (h : ∀ Q' : VK, (∀ x H', R x H' → Q' x H') → if b = true then Q' (.bl true) H else tb σ H Q') : if b = true then Q (.bl true) H else tb σ H Q := h Q hR
theorem jnS {b : Bool} {a c d : L2.St → Hp → Prop} {e : VK} (R : L2.St → Hp → Prop) (hR : ∀ σ' H', R σ' H' → a σ' H') (h : ∀ N : L2.St → Hp → Prop, (∀ σ' H', R σ' H' → N σ' H') → if b = true then tu ⟨N, e, c, d⟩ σ H else tw ⟨N, e, c, d⟩ σ H) : if b = true then tu ⟨a, e, c, d⟩ σ H else tw ⟨a, e, c, d⟩ σ H := h a hR
/-- and, or of two tests of which the second may be asked in any case -/
theorem and_j {c : Bool} {d : Bool} {Q : Bool → Hp → Prop} (h : c = true → ∀ Q' : Bool → Hp → Prop, (∀ H', Same H H' → Q' d H') → u σ H Q') (k : ∀ H', Same H H' → Q (c && d) H') : if c = true then u σ H Q else Q false H := by
  cases c
  · rw [if_neg (by simp)]; exact k H (Same.refl H)
  · rw [if_pos rfl]; exact h rfl Q k
theorem or_j {c : Bool} {d : Bool} {Q : Bool → Hp → Prop} (h : c = false → ∀ Q' : Bool → Hp → Prop, (∀ H', Same H H' → Q' d H') → u σ H Q') (k : ∀ H', Same H H' → Q (c || d) H') : if c = true then Q true H else u σ H Q := by
  cases c
  · rw [if_neg (by simp)]; exact h rfl Q k
  · rw [if_pos rfl]; exact k H (Same.refl H)
theorem g_pow {m n : Int} (c : 0 ≤ n ∧ n ≤ 1000000 ∧ m.natAbs < 2 ^ 64) (k : Q (.int (m ^ n.toNat)) H) : rI CPow (fun i j => .int (i ^ j.toNat)) (.int m) (.int n) H Q := ⟨m, n, rfl, rfl, c, k⟩
/- fields, tuples as targets -/
theorem i_sfld {f : Str} {a b c : L2.St → Hp → Prop} {d : VK} (k : te σ H fun y H1 => ta σ H1 fun x H2 => gSfld K f x y H2 (a σ)) : sFld K ta te f ⟨a, d, b, c⟩ σ H := k
theorem g_sfld {f : Str} {a C dx : Addr} {fs fs' : List (Str × V)} {Q : Hp → Prop} (h : H a = some (.ins C dx fs)) (c : Cls K C) (n : NoAttr K C f) (l : fs.length < 1000) (e : putF f y fs = fs') (k : Q (upd H a (.ins C dx fs'))) : gSfld K f (.ref a) y H Q := ⟨a, C, dx, fs, rfl, h, c, n, l, by rw [e]; exact k⟩
theorem i_gtup {p : Addr} {xs : List V} {tg : TGs} {Q : L2.St → Hp → Prop} (h : SqT K H p xs) (e : xs.length = n) (k : tg xs σ H Q) : gTup K n tg (.ref p) σ H Q := ⟨p, xs, rfl, h, e, k⟩
theorem i_gcons {tg : TG} {tgs : TGs} {Q : L2.St → Hp → Prop} (k : tg v σ H fun σ' H' => tgs vs σ' H' Q) : gCons tg tgs (v :: vs) σ H Q := ⟨v, vs, rfl, k⟩
theorem i_gnil {Q : L2.St → Hp → Prop} (k : Q σ H) : gNil [] σ H Q := ⟨rfl, k⟩
theorem i_par {a b c : L2.St → Hp → Prop} {d : VK} (k : tr σ H fun vs H1 => ∃ v w, vs = [v, w] ∧ a ((σ.set i (some v)).set j (some w)) H1) : tPar i j tr ⟨a, d, b, c⟩ σ H := k
theorem g_par {P : V → V → Prop} (k : P x y) : ∃ v w, [x, y] = [v, w] ∧ P v w := ⟨x, y, rfl, k⟩
/-- a field of an instance, its list of fields literal -/
theorem fld_hd {f : Str} {fs : List (Str × V)} : List.lookup f ((f, v) :: fs) = some v := by simp [List.lookup]
theorem fld_tl {f g : Str} {fs : List (Str × V)} {o : Option V} (h : (f == g) = false) (k : fs.lookup f = o) : List.lookup f ((g, y) :: fs) = o := by rw [List.lookup, h]; exact k
/-- a list made from a list that stands, item by item, nothing else touched -/
def PvP (H : Hp) (f : Nat → V) (D : Addr) (i : Nat) (acc : List V) (H' : Hp) : Prop := Same H H' ∧ acc = (List.range i).map f
theorem g_itemP {H1 H0 : Hp} {f : Nat → V} {D : Addr} (e : Same H0 H1) (h : H1 D = some (.lst ((List.range i).map f))) (hD : H0 D = none) (hi : i < sizeLine) (hy : y = f i) : gItem (PvP H0 f) D i y H1 :=
  g_item h (by simp) hi ⟨Eg.Same.put e hD, by rw [List.range_succ, List.map_append, hy]; rfl⟩
theorem l_lstP {l : Addr} {xs : List V} {vs : List Nat} (f : Nat → V) (hx : SqL K H l xs) (hw : ∀ x, wipe ((wipe σ vs).set j (some x)) vs = wipe σ vs)
    (hs : ∀ D i x H', xs[i]? = some x → H D = none → Same H H' → H' D = some (.lst ((List.range i).map f)) → te ((wipe σ vs).set j (some x)) H' (gItem (PvP H f) D i))
    (k : ∀ p H', H p = none → Same H H' → H' p = some (.lst ((List.range xs.length).map f)) → Q (.ref p) H') : gLc (Itl K l) (gName j) tYes te vs σ H Q :=
  l_it walk_list (PvP H f) (fun D hD => ⟨Eg.Same.put (Same.refl H) hD, rfl⟩) (fun D i acc H' hD _ _ p => p.1.seq hx)
    (fun D i x acc H1 H' hD hi e l p y => by obtain ⟨e1, e2⟩ := y; subst e1; obtain ⟨p1, p2⟩ := p; subst p2; exact ⟨hw x, hs D i x _ e2 hD p1 e⟩) (fun D acc H' hD e _ p => k D H' hD p.1 (by rw [e, p.2]))
theorem l_rngP {lo : Int} {vs : List Nat} (f : Nat → V) (hw : ∀ x, wipe ((wipe σ vs).set j (some x)) vs = wipe σ vs)
    (hs : ∀ D i H', i < n → H D = none → Same H H' → H' D = some (.lst ((List.range i).map f)) → te ((wipe σ vs).set j (some (.int (lo + i)))) H' (gItem (PvP H f) D i))
    (k : ∀ p H', H p = none → Same H H' → H' p = some (.lst ((List.range n).map f)) → Q (.ref p) H') : gLc (Itr lo n) (gName j) tYes te vs σ H Q :=
  l_it walk_range (PvP H f) (fun D hD => ⟨Eg.Same.put (Same.refl H) hD, rfl⟩) (fun D i acc H' hD _ _ p => trivial)
    (fun D i x acc H1 H' hD hi e l p y => by obtain ⟨e1, e2⟩ := y; subst e1 e2; obtain ⟨p1, p2⟩ := p; subst p2; exact ⟨hw _, hs D i _ hi hD p1 e⟩) (fun D acc H' hD e _ p => k D H' hD p.1 (by rw [e, p.2]))
theorem l_strP {z : Str} {vs : List Nat} (f : Nat → V) (hw : ∀ x, wipe ((wipe σ vs).set j (some x)) vs = wipe σ vs)
    (hs : ∀ D i c H', z.cps.toList[i]? = some c → H D = none → Same H H' → H' D = some (.lst ((List.range i).map f)) → te ((wipe σ vs).set j (some (.str (S [c])))) H' (gItem (PvP H f) D i))
    (k : ∀ p H', H p = none → Same H H' → H' p = some (.lst ((List.range z.cps.toList.length).map f)) → Q (.ref p) H') : gLc (Its z) (gName j) tYes te vs σ H Q :=
  l_it walk_str (PvP H f) (fun D hD => ⟨Eg.Same.put (Same.refl H) hD, rfl⟩) (fun D i acc H' hD _ _ p => trivial)
    (fun D i x acc H1 H' hD hi e l p y => by obtain ⟨e1, c, e2, e3⟩ := y; subst e1 e3; obtain ⟨p1, p2⟩ := p; subst p2; exact ⟨hw _, hs D i c _ (by simpa using e2) hD p1 e⟩) (fun D acc H' hD e _ p => k D H' hD p.1 (by rw [e, p.2]; simp))
theorem l_enumP {l : Addr} {xs : List V} {vs : List Nat} {j' : Nat} (f : Nat → V) (hx : SqL K H l xs) (hw : ∀ x y, wipe (((wipe σ vs).set j (some x)).set j' (some y)) vs = wipe σ vs)
    (hs : ∀ D i x H', xs[i]? = some x → H D = none → Same H H' → H' D = some (.lst ((List.range i).map f)) → te (((wipe σ vs).set j (some (.int (i : Nat)))).set j' (some x)) H' (gItem (PvP H f) D i))
    (k : ∀ p H', H p = none → Same H H' → H' p = some (.lst ((List.range xs.length).map f)) → Q (.ref p) H') : gLc (Ite K l) (gTup K 2 (gCons (gName j) (gCons (gName j') gNil))) tYes te vs σ H Q :=
  l_it walk_enum (PvP H f) (fun D hD => ⟨Eg.Same.put (Same.refl H) hD, rfl⟩) (fun D i acc H' hD _ _ p => p.1.seq hx)
    (fun D i x acc H1 H' hD hi e l p y => by
      obtain ⟨T, x1, y1, e1, e2, e3, e4, e5⟩ := y
      subst e1 e3
      cases e4
      obtain ⟨p1, p2⟩ := p
      subst p2
      have hT : Same H1 (upd H1 T (.tup [.int (i : Nat), y1])) := fun b u q => by rw [upd_ne (ne_of_none q e2)]; exact q
      exact ⟨T, _, rfl, .of upd_same, rfl, _, _, rfl, _, _, rfl, rfl, hw _ _, hs D i y1 _ e5 hD (p1.trans hT) (hT _ _ e)⟩) (fun D acc H' hD e _ p => k D H' hD p.1 (by rw [e, p.2]))
end
/-! the same rules, the written part named: within a comprehension -/
section
variable {X : Cx} {K : PySem.W.Frag} {a b e o : Expr} {es : List Expr} {ta tb te to : TE} {t : TA} {pos apos cpos : Pos} {f name : Str} {T id : String} {r : V → List V → Hp → VK → Prop}
theorem op_uAddK (h : X.K = K) : OpR X (binaryOp .Add) (uAdd K) := by subst h; exact op_uAdd
theorem op_uEqK (h : X.K = K) (hu : X.A.units + 64 < cLine) : OpR X (compareOp .Eq) (uEq K) := by subst h; exact op_uEq hu
theorem op_uNeK (h : X.K = K) (hu : X.A.units + 64 < cLine) : OpR X (compareOp .NotEq) (uNe K) := by subst h; exact op_uNe hu
theorem op_uInK (h : X.K = K) : OpR X (compareOp .In) (uIn K) := by subst h; exact op_uIn
theorem op_uNotInK (h : X.K = K) : OpR X (compareOp .NotIn) (uNotIn K) := by subst h; exact op_uNotIn
theorem call_uLenK (h : X.K = K) : CallR X (.builtin "len") (uLen K) := by subst h; exact call_uLen
theorem call_uListK (h : X.K = K) : CallR X (.type "list") (uList K) := by subst h; exact call_uList
theorem cr_sumK (h : X.K = K) (hc : X.calm = true) : CallR X (.builtin "sum") (rSum K) := by subst h; exact cr_sum hc
theorem sl_uK (h : X.K = K) : SlR X (uSl K) := by subst h; exact sl_u
theorem ix_seqK (h : X.K = K) : IxR X (rIx K) := by subst h; exact ix_seq
theorem pe_fldK (h : X.K = K) (he : PE X e ta) (hb : attributeBase e f X.env (eval e X.env) = eval e X.env) : PE X (.Attribute e f pos) (tFld K ta f) := by subst h; exact pe_fld he hb
theorem pe_bmK (h : X.K = K) (pa : PlainAttrs T) (slot : Slot T name id) (hty : typeOf (.builtin id) = pure (.type "method_descriptor")) (hm : MtR X id r) (ho : PE X o to) (ha : PA X (e :: es) t)
    (hst : starEach (e :: es) X.env = (false, eval e X.env) :: starEach es X.env := by rfl) : True := trivial
theorem pt_uK (h : X.K = K) (ha : PE X o ta) (he : ∀ whole, isTrue o X.env whole = (do let v ← whole; standAt o.pos; holding [v] (truthy v)) := by intro _; rfl) : PT X o (uTru K ta) := by subst h; exact pt_u ha he
end
/-- a written text, by its codes -/
theorem pe_s {X : Cx} {x : Str} {j : Nat} {pos : Pos} (l : List Nat) (e : x = S l) : PE X (.Constant (.str x) j pos) (tC (.str (S l))) := by
  subst e
  exact pe_str
theorem at_ofN {α : Type} {xs : List α} {z : Int} {j : Nat} {v : α} (e : z = (j : Int)) (h : xs[j]? = some v) : atI xs z = some v := by
  subst e
  exact atI_nat h
/-! the built-ins' names -/
theorem bt_len : bootBuiltins "len" = some (.builtin "len") := by decide +kernel
theorem bt_abs : bootBuiltins "abs" = some (.builtin "abs") := by decide +kernel
theorem bt_ord : bootBuiltins "ord" = some (.builtin "ord") := by decide +kernel
theorem bt_chr : bootBuiltins "chr" = some (.builtin "chr") := by decide +kernel
theorem bt_isinstance : bootBuiltins "isinstance" = some (.builtin "isinstance") := by decide +kernel
theorem bt_max : bootBuiltins "max" = some (.builtin "max") := by decide +kernel
theorem bt_min : bootBuiltins "min" = some (.builtin "min") := by decide +kernel
theorem bt_sum : bootBuiltins "sum" = some (.builtin "sum") := by decide +kernel
theorem bt_any : bootBuiltins "any" = some (.builtin "any") := by decide +kernel
theorem bt_all : bootBuiltins "all" = some (.builtin "all") := by decide +kernel
theorem bt_sorted : bootBuiltins "sorted" = some (.builtin "sorted") := by decide +kernel
theorem bt_int : bootBuiltins "int" = some (.type "int") := by decide +kernel
theorem bt_str : bootBuiltins "str" = some (.type "str") := by decide +kernel
theorem bt_list : bootBuiltins "list" = some (.type "list") := by decide +kernel
theorem bt_tuple : bootBuiltins "tuple" = some (.type "tuple") := by decide +kernel
theorem bt_bool : bootBuiltins "bool" = some (.type "bool") := by decide +kernel
theorem bt_dict : bootBuiltins "dict" = some (.type "dict") := by decide +kernel
/-! kinds -/
theorem kb_non (T : String) (h : (T == "bool" || T == "int" || T == "str" || T == "list" || T == "tuple") = true) : kitB "NoneType" T = some false := by
  simp only [Bool.or_eq_true, beq_iff_eq] at h
  rcases h with (((h | h) | h) | h) | h <;> subst h <;> decide +kernel
theorem kb_bool (T : String) (h : (T == "str" || T == "list" || T == "tuple") = true) : kitB "bool" T = some false := by
  simp only [Bool.or_eq_true, beq_iff_eq] at h
  rcases h with (h | h) | h <;> subst h <;> decide +kernel
theorem kb_int (T : String) (h : (T == "bool" || T == "str" || T == "list" || T == "tuple") = true) : kitB "int" T = some false := by
  simp only [Bool.or_eq_true, beq_iff_eq] at h
  rcases h with ((h | h) | h) | h <;> subst h <;> decide +kernel
theorem kb_str (T : String) (h : (T == "bool" || T == "int" || T == "list" || T == "tuple") = true) : kitB "str" T = some false := by
  simp only [Bool.or_eq_true, beq_iff_eq] at h
  rcases h with ((h | h) | h) | h <;> subst h <;> decide +kernel
theorem kb_list (T : String) (h : (T == "bool" || T == "int" || T == "str" || T == "tuple") = true) : kitB "list" T = some false := by
  simp only [Bool.or_eq_true, beq_iff_eq] at h
  rcases h with ((h | h) | h) | h <;> subst h <;> decide +kernel
theorem kb_tuple (T : String) (h : (T == "bool" || T == "int" || T == "str" || T == "list") = true) : kitB "tuple" T = some false := by
  simp only [Bool.or_eq_true, beq_iff_eq] at h
  rcases h with ((h | h) | h) | h <;> subst h <;> decide +kernel
theorem kb_bb : kitB "bool" "bool" = some true := by decide +kernel
theorem kb_ii : kitB "int" "int" = some true := by decide +kernel
theorem kb_ss : kitB "str" "str" = some true := by decide +kernel
theorem kb_ll : kitB "list" "list" = some true := by decide +kernel
theorem kb_tt : kitB "tuple" "tuple" = some true := by decide +kernel
end Eg

set_option Elab.async false
set_option linter.all false
set_option maxRecDepth 100000
set_option maxHeartbeats 4000000
/-! all stands but at these places -/
namespace Eg
open PySem PySem.Spec PyProof.Rows L2 Rl
def Nn (b : Addr) (l : List Addr) : Prop := ∀ a ∈ l, b ≠ a
theorem nn_nil {b : Addr} : Nn b [] := fun _ h => nomatch h
theorem nn_cons {a b : Addr} {l : List Addr} (h : b ≠ a) (k : Nn b l) : Nn b (a :: l) := fun c hc => by
  rcases List.mem_cons.mp hc with e | e
  · rw [e]; exact h
  · exact k c e
def Offs (l : List Addr) (H H' : Hp) : Prop := ∀ b u, Nn b l → H b = some u → H' b = some u
theorem Offs.refl (l : List Addr) (H : Hp) : Offs l H H := fun _ _ _ q => q
theorem Offs.same {l : List Addr} {H H1 H2 : Hp} (h : Offs l H H1) (e : Same H1 H2) : Offs l H H2 := fun b u n q => e b u (h b u n q)
theorem Same.offs {l : List Addr} {H H1 : Hp} (e : Same H H1) : Offs l H H1 := fun b u _ q => e b u q
theorem Offs.trans {l : List Addr} {H H1 H2 : Hp} (h : Offs l H H1) (k : Offs l H1 H2) : Offs l H H2 := fun b u n q => k b u n (h b u n q)
theorem Offs.put {l : List Addr} {H H1 : Hp} {a : Addr} {v : HO} (h : Offs l H H1) (m : a ∈ l) : Offs l H (upd H1 a v) := fun b u n q => by rw [upd_ne (n a m)]; exact h b u n q
theorem Offs.putN {l : List Addr} {H H1 : Hp} {a : Addr} {v : HO} (h : Offs l H H1) (m : H a = none) : Offs l H (upd H1 a v) := fun b u n q => by rw [upd_ne (ne_of_none q m)]; exact h b u n q
theorem Offs.off {l : List Addr} {H H1 H2 : Hp} {a : Addr} (h : Offs l H H1) (m : a ∈ l) (k : Off a H1 H2) : Offs l H H2 := fun b u n q => k b u (n a m) (h b u n q)
theorem Offs.offN {l : List Addr} {H H1 H2 : Hp} {a : Addr} (h : Offs l H H1) (m : H a = none) (k : Off a H1 H2) : Offs l H H2 := fun b u n q => k b u (ne_of_none q m) (h b u n q)
/-- the places changed later are known, or were free -/
theorem Offs.more {l l2 : List Addr} {H H1 H2 : Hp} (h : Offs l H H1) (k : Offs l2 H1 H2) (m : ∀ a ∈ l2, a ∈ l ∨ H a = none) : Offs l H H2 := fun b u n q => k b u (fun a ha => (m a ha).elim (n a) fun z => ne_of_none q z) (h b u n q)
theorem Offs.allN {l2 : List Addr} {H H1 H2 : Hp} (h : Same H H1) (k : Offs l2 H1 H2) (m : ∀ a ∈ l2, H a = none) : Same H H2 := fun b u q => k b u (fun a ha => ne_of_none q (m a ha)) (h b u q)
theorem Off.offs {a : Addr} {H H1 : Hp} (h : Off a H H1) : Offs [a] H H1 := fun b u n q => h b u (n a (by simp)) q
theorem Offs.wk {l l2 : List Addr} {H H1 : Hp} (h : Offs l H H1) (m : ∀ a ∈ l, a ∈ l2 ∨ H a = none) : Offs l2 H H1 := Offs.more (Offs.refl _ _) h m
theorem Offs.free {l : List Addr} {H H1 : Hp} {a : Addr} (h : H1 a = none) (k : Offs l H H1) (n : Nn a l) : H a = none := by
  cases e : H a with
  | none => rfl
  | some u => rw [k a u n e] at h; cases h
/-- in a list of places, or free: word by word -/
theorem mf_nil {P : Addr → Prop} : ∀ a ∈ ([] : List Addr), P a := fun _ h => nomatch h
theorem mf_cons {P : Addr → Prop} {b : Addr} {l : List Addr} (h : P b) (k : ∀ a ∈ l, P a) : ∀ a ∈ b :: l, P a := fun c hc => by
  rcases List.mem_cons.mp hc with e | e
  · rw [e]; exact h
  · exact k c e
theorem Offs.tup {l : List Addr} {K : PySem.W.Frag} {H H1 : Hp} {p : Addr} {xs : List V} (h : Offs l H H1) (n : Nn p l) (t : SqT K H p xs) : SqT K H1 p xs := by
  rcases t with (t | ⟨o, t⟩) | t
  · exact .inl (.inl (h _ _ n t))
  · exact .inl (.inr ⟨o, h _ _ n t⟩)
  · exact .inr t
theorem Same.tup {K : PySem.W.Frag} {H H1 : Hp} {p : Addr} {xs : List V} (h : Same H H1) (t : SqT K H p xs) : SqT K H1 p xs := by
  rcases t with (t | ⟨o, t⟩) | t
  · exact .inl (.inl (h _ _ t))
  · exact .inl (.inr ⟨o, h _ _ t⟩)
  · exact .inr t
theorem same_at {H H' : Hp} {b : Addr} {u : HO} (e : Same H H') (h : H b = some u) : H' b = some u := e b u h
theorem off_at {H H' : Hp} {a b : Addr} {u : HO} (e : Off a H H') (n : b ≠ a) (h : H b = some u) : H' b = some u := e b u n h
theorem offs_at {H H' : Hp} {l : List Addr} {b : Addr} {u : HO} (e : Offs l H H') (n : Nn b l) (h : H b = some u) : H' b = some u := e b u n h
theorem upd_none {H : Hp} {a b : Addr} {v : HO} (h : upd H a v b = none) : H b = none := by
  by_cases e : b = a
  · subst e; rw [upd_same] at h; cases h
  · rw [upd_ne e] at h; exact h
theorem off_free {H H1 : Hp} {a b : Addr} {u : HO} (o : Off a H H1) (ha : H1 a = some u) (h : H1 b = none) : H b = none := by
  cases e : H b with
  | none => rfl
  | some v =>
    by_cases n : b = a
    · subst n; rw [ha] at h; cases h
    · rw [o b v n e] at h; cases h
theorem pf_nil {f : Str} {v : V} : putF f v [] = [(f, v)] := rfl
theorem pf_hd {f : Str} {v x : V} {r : List (Str × V)} : putF f v ((f, x) :: r) = (f, v) :: r := by simp [putF]
theorem pf_tl {f g : Str} {v x : V} {r s : List (Str × V)} (h : decide (g = f) = false) (k : putF f v r = s) : putF f v ((g, x) :: r) = (g, x) :: s := by
  have h' := of_decide_eq_false h
  rw [putF, if_neg h', k]
end Eg

set_option Elab.async false
set_option linter.all false
set_option maxRecDepth 100000
set_option maxHeartbeats 4000000
/-! a dict, key by key, held still -/
namespace Eg
open PySem PySem.Spec PyProof.Rows L2 Rl
theorem i_lock {t : TS} {σ : L2.St} {H : Hp} {a b c : L2.St → Hp → Prop} {r : VK} {d : Addr} {u : HO} (h : H d = some u) (m : Mut (some u))
    (k : ∀ od, t ⟨fun σ' H' => H' d = some (.frz od u) ∧ a σ' (upd H' d u), fun v H' => H' d = some (.frz od u) ∧ r v (upd H' d u), fun σ' H' => H' d = some (.frz od u) ∧ b σ' (upd H' d u), fun σ' H' => H' d = some (.frz od u) ∧ c σ' (upd H' d u)⟩ σ (upd H d (.frz od u))) :
    tLock t ⟨a, r, b, c⟩ σ H := ⟨d, u, h, m, k⟩
def gKeys (x : V) (H : Hp) (R : It → Hp → Prop) : Prop := ∃ d o, x = .ref d ∧ ((∃ kvs, H d = some (.frz o (.dK kvs)) ∧ R (Itk d o kvs) H) ∨ ∃ kvs, H d = some (.frz o (.dT kvs)) ∧ R (Itkt d o kvs) H)
theorem i_keys {td : TE} {σ : L2.St} {H : Hp} {R : It → Hp → Prop} (k : td σ H fun x H1 => gKeys x H1 R) : iKeys td σ H R := k
theorem g_keys {H : Hp} {R : It → Hp → Prop} {d : Addr} {o : Obj} {kvs : List (Key × V)} (h : H d = some (.frz o (.dK kvs))) (k : R (Itk d o kvs) H) : gKeys (.ref d) H R := ⟨d, o, rfl, .inl ⟨kvs, h, k⟩⟩
theorem f_keys {g : TG} {tu : TS} {σ : L2.St} {H : Hp} {l : Addr} {o : Obj} {kvs : List (Key × V)} {a b c : L2.St → Hp → Prop} {d : VK} (Pv : Nat → L2.St → Hp → Prop) (h0 : Pv 0 σ H) (hl : ∀ i σ H, i ≤ kvs.length → Pv i σ H → H l = some (.frz o (.dK kvs)))
    (hs : ∀ i k v σ H, kvs[i]? = some (k, v) → Pv i σ H → g (kV k) σ H fun σ2 H2 => tu ⟨Pv (i + 1), d, a, Pv (i + 1)⟩ σ2 H2) (hd : ∀ σ H, Pv kvs.length σ H → a σ H) : gFor (Itk l o kvs) g tu ⟨a, d, b, c⟩ σ H :=
  f_it walk_keys Pv h0 hl (fun i x σ H H' hi p y => by obtain ⟨e, k, v, e2, e3⟩ := y; subst e e3; exact hs i k v σ _ e2 p) hd
def gMake (C : Addr) (sp : Sp) (E : XK) (vs : List V) (H : Hp) (Q : VK) : Prop := ∀ x dx, H x = none → H dx = none → dx ≠ x → sp (.ref x :: vs) (upd (upd H dx (.own x)) x (.ins C dx [])) (fun v H2 => v = .non ∧ Q (.ref x) H2) E
theorem i_mk {C : Addr} {sp : Sp} {E : XK} {tr : TA} {σ : L2.St} {H : Hp} {Q : VK} (k : tr σ H fun vs H1 => gMake C sp E vs H1 Q) : tMake C sp [] E tr σ H Q := i_make k
theorem pg_tupK {X : Cx} {K : PySem.W.Frag} {es : List Expr} {k : Nat} {t : TGs} {n : Nat} {pos : Pos} (h : X.K = K) (hc : X.calm = true) (h2 : PGs X es t)
    (hn : (assignEach es X.env).length = n := by rfl) (hst : (assignEach es X.env).findIdx? (·.1) = none := by rfl) : PG X (.Tuple es k pos) (gTup K n t) := by
  subst h
  exact pg_tup hc h2 hn hst
theorem iteNT {A B : Prop} (k : B) : if (!true) = true then A else B := k
theorem iteNF {A B : Prop} (k : A) : if (!false) = true then A else B := k
theorem upd_swap {H : Hp} {a b : Addr} {x y : HO} (n : a ≠ b) : upd (upd H a x) b y = upd (upd H b y) a x := by
  funext c
  unfold upd
  by_cases h1 : c = a
  · have : ¬ c = b := fun h2 => n (h1.symm.trans h2)
    rw [if_pos h1, if_neg this, if_pos h1]
  · rw [if_neg h1, if_neg h1]
theorem upd_at {H : Hp} {a : Addr} {o : HO} (h : H a = some o) : upd H a o = H := by
  funext c
  unfold upd
  by_cases e : c = a
  · rw [if_pos e, e, h]
  · rw [if_neg e]
/-! the same rules, the ends written out -/
section
variable {σ : L2.St} {H : Hp} {te to ti : TE} {tr : TA} {g : TG} {a b c : L2.St → Hp → Prop} {r : VK} {i : Nat} {x : V}
theorem j_next (k : a σ H) : tNext ⟨a, r, b, c⟩ σ H := k
theorem j_asg (k : te σ H fun x H1 => g x σ H1 a) : tAsg te g ⟨a, r, b, c⟩ σ H := k
theorem j_drop (k : te σ H fun _ H1 => a σ H1) : tDrop te ⟨a, r, b, c⟩ σ H := k
theorem j_ret (k : te σ H r) : tRet te ⟨a, r, b, c⟩ σ H := k
theorem j_retN (k : r .non H) : tRetN ⟨a, r, b, c⟩ σ H := k
theorem j_aug {ti : TIp} (h : σ[i]? = some (some x)) (k : te σ H fun y H1 => ti x y H1 fun z H2 => a (σ.set i (some z)) H2) : tAug i te ti ⟨a, r, b, c⟩ σ H := ⟨x, h, k⟩
theorem j_augS {tget : V → V → Hp → VK → Prop} {tip : TIp} {tset : TSet} (k : to σ H fun o H1 => ti σ H1 fun i H2 => tget o i H2 fun x H3 => te σ H3 fun y H4 => tip x y H4 fun z H5 => tset o i z H5 fun H6 => a σ H6) : tAugS to ti te tget tip tset ⟨a, r, b, c⟩ σ H := k
end
end Eg

set_option Elab.async false
set_option linter.all false
set_option maxRecDepth 100000
set_option maxHeartbeats 4000000
/-! an own exception class whose base is an own one too: the base's name, its first method -/
namespace Eg
open PySem PySem.Spec PyProof.Rows L2 Rl
section
variable {X : Cx} {W : Addr} {x : Str} {mc : Value} {e : Expr} {es : List Expr} {ta : TA} {p1 p2 pos : Pos}
theorem pe_winit {pl : Sem Bool} (hg : Gl X x) (hm : X.mg x = some (.ref W)) (hgw : PySem.W.specialIn X.K (.ref W) "__getattribute__" = some (some (.builtin "type.__getattribute__"))) (hr : PySem.W.readsIn X.K W mc = true) (vV : PySem.W.findCls X.K (.ref W) mc "__init__" = some (.val (.builtin "ValueError.__init__"))) (ha : PA X (e :: es) ta)
    (hdb : (x == ("__debug__" : Str)) = false := by decide)
    (hc : eval (.Call (.Attribute (.Name x p1) "__init__" p2) (e :: es) [] pos) X.env = (do
      let ov ← eval (.Name x p1) X.env
      standAt p2.atName
      let (f, first) ← holding [ov] (getMethod ov "__init__" pl)
      callWith pos f first (backTo pos (starEach (e :: es) X.env)) (backToKw pos (keywordEach [] X.env))) := by rfl)
    (he : starEach (e :: es) X.env = (false, eval e X.env) :: starEach es X.env := by rfl) (hpl : (backTo pos (starEach es X.env)).any (·.1) = false := by rfl) :
    PE X (.Call (.Attribute (.Name x p1) "__init__" p2) (e :: es) [] pos) (tVeI X.K ta) := by
  refine ⟨fun pins s σ H Q I h => ?_⟩
  refine PySem.W.methodCall_KW (ld_glob I hg hm ?_ hdb) hc
  refine PySem.W.method_cls (I.tok _).kIn hgw (PySem.W.cls_value (I.tok _).kIn hr vV (by decide +kernel) ?_)
  show wpAny _ _ (callWith pos (Value.builtin "ValueError.__init__") [] (backTo pos (starEach (e :: es) X.env)) []) _ _ _
  refine PyProof.Rows.callWith_method1 (thn (ha.run pos pins _ σ H _ (I.tok _) h) fun us s1 ⟨vs, H1, I1, r1, a, C, ws, ev, hl, T, ea, q⟩ => ?_) he hpl
  subst ev
  cases r1 with
  | @cons _ u0 _ ur ra rw' =>
    obtain rfl : u0 = Value.ref a := ra
    have hlen : ur.length ≤ sizeLine := by
      rw [← Paired.length rw', sizeLine_eq]
      omega
    exact oinit_ok T I1 ea hlen fun s' J => ⟨.non, H1, J, rfl, q⟩
end
/-! calls that may raise, the way out told slot by slot -/
section
variable {X : Cx} {G : CXT} {k : Nat} {f C : Addr} {fd : FuncData} {ps : List Str} {sp : Sp} {E : L2.St → XK} {x m : Str} {p pos apos : Pos} {o e : Expr} {es : List Expr} {ta : TE} {t : TA}
theorem run_mkS {pins : List (Addr × Obj)} {σ : L2.St} {H : Hp} {s : Shared} {Q : VK} {us : List Value} {vs : List V}
    (M : Mk X.K C f) (F : FnOk X.prog X.w X.K X.mg X.base G k f fd ps sp) (hr : Room (k + 1) X.A) (hb : Binds X.K fd ps [])
    (hx : PassesAt G X σ (E σ)) (I : Inv X pins σ H s) (r : Vals vs us) (h : gMake C sp (E σ) vs H Q) :
    wpAny (model X.prog X.w) X.A (call (.ref C) us) (EP X pins σ Q) X.xe s := by
  have fresh1 := I.hok.fresh (Nat.le_succ s.heap.objs.size)
  have fresh0 := I.hok.fresh (Nat.le_refl s.heap.objs.size)
  have hq := h (s.heap.objs.size + 1) s.heap.objs.size fresh1 fresh0 (Nat.ne_of_lt (Nat.lt_succ_self _))
  have J := Inv.made (C := C) I
  have rr : Vals (V.ref (s.heap.objs.size + 1) :: vs) (Value.ref (s.heap.objs.size + 1) :: us) := .cons rfl r
  have hl : (Value.ref (s.heap.objs.size + 1) :: us).length = ps.length := by
    rw [← rr.length]
    exact F.len _ _ _ _ hq
  have b := hb _ (Value.ref (s.heap.objs.size + 1) :: us) J.kIn (by rw [List.append_nil]; exact hl)
  rw [List.append_nil] at b
  have run := F.run _ X.stack _ _ ⟨Value.ref (s.heap.objs.size + 1) :: us, []⟩ _ _ _ _ (hr.make C us []) (J.env0.make C us []) b rr hq
  refine wpAny_call (make_map (f := f) I.kIn M.makes M.init (beq_iff_eq.mp M.fn) (codeAny_mono run fun z s' w' => ?_))
  rcases z with e | fl
  · exact hx pins _ _ e s' J w'
  · cases fl with
    | ret u =>
      obtain ⟨v, H', I3, rv, ev, q3⟩ := J.after w'
      subst ev
      exact ⟨rv, ⟨V.ref (s.heap.objs.size + 1), H', I3, rfl, q3⟩⟩
    | next => exact w'.elim
    | brk => exact w'.elim
    | cont => exact w'.elim
def tMakeS (C : Addr) (sp : Sp) (E : L2.St → XK) (t : TA) : TE := fun σ H Q => t σ H fun vs H1 => gMake C sp (E σ) vs H1 Q
theorem pe_makeS (M : Mk X.K C f) (F : FnOk X.prog X.w X.K X.mg X.base G k f fd ps sp) (hr : Room (k + 1) X.A) (hg : Gl X x) (hm : X.mg x = some (.ref C)) (hb : Binds X.K fd ps [])
    (hx : ∀ σ, PassesAt G X σ (E σ)) (ha : PA X (e :: es) t) (hdb : (x == ("__debug__" : Str)) = false := by decide)
    (he : starEach (e :: es) X.env = (false, eval e X.env) :: starEach es X.env := by rfl)
    (hpl : (backTo pos (starEach es X.env)).any (·.1) = false := by rfl) : PE X (.Call (.Name x p) (e :: es) [] pos) (tMakeS C sp E t) := by
  constructor
  intro pins s σ H Q I h
  have arg := fun s0 I0 => ha.run pos pins s0 σ H (fun vs H1 => gMake C sp (E σ) vs H1 Q) I0 h
  refine wpAny_Call_Name_kw (ld_glob I hg hm (PySem.W.callWith_K (h₀ := X.base) I.ok.mod.kin M.kp (thn (arg s I) fun us s1 z => ?_) he hpl) hdb)
  obtain ⟨vs, H1, I1, r, q⟩ := z
  exact ⟨I1.kIn, run_mkS M F hr hb (hx σ) I1 r q⟩
end
/-! an own exception class with one field -/
structure Iex (P : Program) (w : World) (K : PySem.W.Frag) (mg : Str → Option Value) (base : Heap) (k : Nat) (x : Str) (C : Addr) (ps : List Str) (sp : Sp) : Prop where
  ex : ∃ (f : Addr) (fd : FuncData), FnOk P w K mg base CX0 k f fd ps sp ∧ PySem.W.findIn K (.ref C) "__init__" = some (some (.ref f)) ∧ PySem.W.typeIn K (.ref f) = some (.type "function") ∧ mg x = some (.ref C) ∧ Binds K fd ps []
  ox : OexC K C
section
variable {X : Cx} {k : Nat} {x : Str} {ps : List Str} {sp : Sp} {p pos pos' : Pos} {e : Expr} {es : List Expr} {t : TA} {C : Addr}
theorem pmk_iex (D : Iex X.prog X.w X.K X.mg X.base k x C ps sp) (hr : Room (k + 1) X.A) (hg : Gl X x) (ha : PA X (e :: es) t) (hdb : (x == ("__debug__" : Str)) = false := by decide)
    (he : starEach (e :: es) X.env = (false, eval e X.env) :: starEach es X.env := by rfl)
    (hpl : (backTo pos (starEach es X.env)).any (·.1) = false := by rfl) : PMk X (.Call (.Name x p) (e :: es) [] pos) (tMkO C sp [] t) := by
  obtain ⟨f, fd, F, iC, tI, hm, hb⟩ := D.ex
  exact pmk_oex D.ox iC tI F hr hb .nil pass0 hg hm ha hdb he hpl
def tRaise (W : WX) (t : L2.St → Hp → XK → Prop) : TS := fun _ σ H => t σ H fun cls d H' => W cls d σ H'
theorem ps_rs {W : WX} {e : Expr} {t : L2.St → Hp → XK → Prop} (tk : Takes X W) (he : PMk X e t) (hc : X.calm = true) : PS X (.Raise (some e) none pos) (tRaise W t) := ps_raise hc tk he
def gRaise (C : Addr) (sp : Sp) (vs : List V) (H : Hp) (Q : XK) : Prop := vs.length ≤ 1000 ∧ ∀ a, H a = none → sp (.ref a :: vs) (upd H a (exo a C none)) (fun v H2 => v = .non ∧ ∃ (d : Addr) (fs : List (Str × V)), H2 a = some (exo a C (some d)) ∧ H2 d = some (exd d fs) ∧ H d = none ∧ Q (.ref C) (some d) (upd (del H2 a) d (.xd fs))) fun _ _ _ => False
theorem i_raise {W : WX} {D : Ends} {σ : L2.St} {H : Hp} (h : t σ H fun vs H1 => gRaise C sp vs H1 fun cls d H' => W cls d σ H') : tRaise W (tMkO C sp [] t) D σ H := by
  unfold tRaise tMkO
  simp only [List.append_nil]
  exact h
def tTryAs (K : PySem.W.Frag) (c : Value) (i : Nat) (tb : WX → TS) (ts : Addr → Value → Option Addr → TS) (Wout : WX) : TS := fun D σ H => tb (wAs K c i ts Wout D) D σ H
theorem i_try {K : PySem.W.Frag} {c : Value} {i : Nat} {tb : WX → TS} {ts : Addr → Value → Option Addr → TS} {Wout : WX} {D : Ends} {σ : L2.St} {H : Hp} (h : tb (wAs K c i ts Wout D) D σ H) : tTryAs K c i tb ts Wout D σ H := h
theorem g_wAs {K : PySem.W.Frag} {cls c : Value} {i : Nat} {ts : Addr → Value → Option Addr → TS} {Wout : WX} {D : Ends} {d : Option Addr} {σ : L2.St} {H : Hp} (e : PySem.W.exmOne K cls c = some true)
    (k : ∀ a, H a = none → ts a cls d { nx := fun σ' H' => D.nx (σ'.set i none) H', rt := D.rt, bk := fun σ' H' => D.bk (σ'.set i none) H', ct := fun σ' H' => D.ct (σ'.set i none) H' } (σ.set i (some (.ref a))) H) : wAs K c i ts Wout D cls d σ H := ⟨true, e, fun _ => k, fun z => Bool.noConfusion z⟩
theorem j_makeS {E : L2.St → XK} {σ : L2.St} {H : Hp} {Q : VK} (h : t σ H fun vs H1 => gMake C sp (E σ) vs H1 Q) : tMakeS C sp E t σ H Q := h
def gXf (a : Addr) (cls : Value) (d : Option Addr) (C : Addr) (f : Str) (x : V) (H1 : Hp) (Q : VK) : Prop := x = .ref a ∧ cls = .ref C ∧ ∃ (dd : Addr) (fs : List (Str × V)) (v : V), d = some dd ∧ H1 dd = some (.xd fs) ∧ fs.lookup f = some v ∧ Q v H1
theorem i_xf {a : Addr} {cls : Value} {d : Option Addr} {f : Str} {te : TE} {σ : L2.St} {H : Hp} {Q : VK} (h : te σ H fun x H1 => gXf a cls d C f x H1 Q) : tXf a cls d C f te σ H Q := h
theorem g_xf {a d : Addr} {f : Str} {v : V} {fs : List (Str × V)} {H : Hp} {Q : VK} (h : H d = some (.xd fs)) (l : fs.lookup f = some v) (k : Q v H) : gXf a (.ref C) (some d) C f (.ref a) H Q := ⟨rfl, rfl, d, fs, v, rfl, h, l, k⟩
end
/-- the promise of an __init__ that calls its base's and sets one field -/
def sp_xi (K : PySem.W.Frag) (C : Addr) (f : Str) : Sp := fun vs H Q _ => ∃ (a : Addr) (v : V), vs = [.ref a, v] ∧ H a = some (exo a C none) ∧ ∀ dx, H dx = none → dx ≠ a → Q .non (upd (upd H dx (exd dx [(f, v)])) a (exo a C (some dx)))
theorem c_raise {K : PySem.W.Frag} {C : Addr} {f : Str} {v : V} {H : Hp} {Q : XK} (k : ∀ d H', H d = none → Same H H' → H' d = some (.xd [(f, v)]) → Q (.ref C) (some d) H') : gRaise C (sp_xi K C f) [v] H Q := by
  refine ⟨by simp, fun a ha => ⟨a, v, rfl, upd_same, fun dx hd hn => ⟨rfl, dx, [(f, v)], upd_same, by rw [upd_ne hn, upd_same], upd_none hd, ?_⟩⟩⟩
  refine k dx _ (upd_none hd) (fun b u q => ?_) upd_same
  have hb := ne_of_none q ha
  have hb2 := ne_of_none q (upd_none hd)
  rw [upd_ne hb2, del_ne hb, upd_ne hb, upd_ne hb2, upd_ne hb]
  exact q
/-! defs that may raise -/
structure DfnX (P : Program) (w : World) (K : PySem.W.Frag) (mg : Str → Option Value) (base : Heap) (k : Nat) (x : Str) (ps : List Str) (sp : Sp) : Prop where
  ex : ∃ (f : Addr) (fd : FuncData), FnOk P w K mg base (L2.CX P w) k f fd ps sp ∧ mg x = some (.ref f) ∧ PySem.W.keepIn K (.ref f) = true ∧ Binds K fd ps []
structure IniX (P : Program) (w : World) (K : PySem.W.Frag) (mg : Str → Option Value) (base : Heap) (k : Nat) (x : Str) (C : Addr) (ps : List Str) (sp : Sp) : Prop where
  ex : ∃ (f : Addr) (fd : FuncData), FnOk P w K mg base (L2.CX P w) k f fd ps sp ∧ Mk K C f ∧ mg x = some (.ref C) ∧ Binds K fd ps []
section
variable {X : Cx} {k : Nat} {x : Str} {ps : List Str} {sp : Sp} {p pos : Pos} {e : Expr} {es : List Expr} {t : TA} {C : Addr} {W : WX}
theorem pe_dfnS (D : DfnX X.prog X.w X.K X.mg X.base k x ps sp) (hr : Room k X.A) (hg : Gl X x) (tk : Takes X W) (ha : PA X (e :: es) t) (hdb : (x == ("__debug__" : Str)) = false := by decide)
    (he : starEach (e :: es) X.env = (false, eval e X.env) :: starEach es X.env := by rfl)
    (hpl : (backTo pos (starEach es X.env)).any (·.1) = false := by rfl) : PE X (.Call (.Name x p) (e :: es) [] pos) (tCallS sp (WE W) t) := by
  obtain ⟨f, fd, F, hm, hk, hb⟩ := D.ex
  exact pe_callS F hr hg hm hk hb (fun σ => passAt tk σ) ha hdb he hpl
theorem pe_iniS (D : IniX X.prog X.w X.K X.mg X.base k x C ps sp) (hr : Room (k + 1) X.A) (hg : Gl X x) (tk : Takes X W) (ha : PA X (e :: es) t) (hdb : (x == ("__debug__" : Str)) = false := by decide)
    (he : starEach (e :: es) X.env = (false, eval e X.env) :: starEach es X.env := by rfl)
    (hpl : (backTo pos (starEach es X.env)).any (·.1) = false := by rfl) : PE X (.Call (.Name x p) (e :: es) [] pos) (tMakeS C sp (WE W) t) := by
  obtain ⟨f, fd, F, M, hm, hb⟩ := D.ex
  exact pe_makeS M F hr hg hm hb (fun σ => passAt tk σ) ha hdb he hpl
end
/-- the base's __init__ called, a field set: what an own exception's __init__ reads -/
def gVe (K : PySem.W.Frag) (vs : List V) (H1 : Hp) (Q : VK) : Prop := ∃ (a C : Addr) (ws : List V), vs = .ref a :: ws ∧ ws.length ≤ 1000 ∧ OexC K C ∧ H1 a = some (exo a C none) ∧ Q .non H1
theorem i_ve {K : PySem.W.Frag} {ta : TA} {σ : L2.St} {H : Hp} {Q : VK} (k : ta σ H fun vs H1 => gVe K vs H1 Q) : tVeI K ta σ H Q := k
theorem g_ve {K : PySem.W.Frag} {a C : Addr} {ws : List V} {H : Hp} {Q : VK} (h : H a = some (exo a C none)) (o : OexC K C) (l : ws.length ≤ 1000) (k : Q .non H) : gVe K (.ref a :: ws) H Q := ⟨a, C, ws, rfl, l, o, h, k⟩
def gOst (K : PySem.W.Frag) (f : Str) (y x : V) (H2 : Hp) (Q : Hp → Prop) : Prop := ∃ a C : Addr, x = .ref a ∧ OexC K C ∧ PySem.W.findIn K (.ref C) f = some none ∧
  ((H2 a = some (exo a C none) ∧ ∀ dx, H2 dx = none → dx ≠ a → Q (upd (upd H2 dx (exd dx [(f, y)])) a (exo a C (some dx)))) ∨
    ∃ (dx : Addr) (fs : List (Str × V)), H2 a = some (exo a C (some dx)) ∧ H2 dx = some (exd dx fs) ∧ fs.length ≤ 900 ∧ Q (upd H2 dx (exd dx ((f, y) :: fs))))
theorem i_ost {K : PySem.W.Frag} {f : Str} {to te : TE} {a b c : L2.St → Hp → Prop} {r : VK} {σ : L2.St} {H : Hp} (k : te σ H fun y H1 => to σ H1 fun x H2 => gOst K f y x H2 (a σ)) : tOst K f to te ⟨a, r, b, c⟩ σ H := k
theorem g_ost {K : PySem.W.Frag} {f : Str} {y : V} {a C : Addr} {H : Hp} {Q : Hp → Prop} (h : H a = some (exo a C none)) (o : OexC K C) (n : PySem.W.findIn K (.ref C) f = some none) (k : ∀ dx, H dx = none → dx ≠ a → Q (upd (upd H dx (exd dx [(f, y)])) a (exo a C (some dx)))) : gOst K f y (.ref a) H Q := ⟨a, C, rfl, o, n, .inl ⟨h, k⟩⟩
theorem i_unl {K : PySem.W.Frag} {n : Nat} {tg : TGs} {p : Addr} {xs : List V} {σ : L2.St} {H : Hp} {Q : L2.St → Hp → Prop} (h : SqL K H p xs) (e : xs.length = n) (k : tg xs σ H Q) : gUnl K n tg (.ref p) σ H Q := ⟨p, xs, rfl, h, e, k⟩
end Eg

set_option Elab.async false
set_option linter.all false
set_option maxRecDepth 100000
set_option maxHeartbeats 4000000
/-! ranges as values, backwards; wide numbers; lists compared -/
namespace Eg
open PySem PySem.Spec PyProof.Rows L2 Rl SX
section
variable {X : Cx}
def uRng : List V → Hp → VK → Prop := fun xs H Q => ∃ n : Int, xs = [.int n] ∧ ∀ p, H p = none → Q (.ref p) (upd H p (.rng 0 n))
theorem call_uRng : CallR X (.type "range") uRng := by
  intro pins s σ H vs us Q I r ⟨n, e, q⟩
  subst e
  cases r with
  | cons r rr =>
    cases rr
    obtain ⟨t, rfl⟩ := r
    refine call_range_1 ⟨.ref s.heap.objs.size, upd H s.heap.objs.size (.rng 0 n), I.laid (t' := s.toks + 1 + 1) (fun _ _ z => Heap.get?_push_of_some _ z) (Nat.le_refl _) ?_, rfl, q _ (I.hok.fresh (Nat.le_refl _))⟩
    exact ⟨s.toks, t, s.toks + 1, Heap.get?_push_size _ rfl⟩
/-- a range object, walked -/
def iRng0 (te : TE) : TI := fun σ H R => te σ H fun x H1 => ∃ (p : Addr) (lo hi : Int), x = .ref p ∧ H1 p = some (.rng lo hi) ∧ (-(2 ^ 62) ≤ lo ∧ lo < 2 ^ 62 ∧ -(2 ^ 62) ≤ hi ∧ hi < 2 ^ 62) ∧ R (Itr lo (hi - lo).toNat) H1
theorem pi_rng {tg e : Expr} {te : TE} (he : PE X e te) : PI X tg e (iRng0 te) := by
  refine ⟨fun pins s σ H R I h => ?_⟩
  refine thn (he.run pins s σ H _ I h) fun v s1 ⟨x, H1, I1, r1, q1⟩ => ?_
  obtain ⟨p, lo, hi, e1, hp, ⟨h1, h2, h3, h4⟩, q⟩ := q1
  subst e1
  cases r1
  obtain ⟨t1, t2, t3, ho⟩ := I1.hok p _ hp
  refine wpAny_pyIter_range (t := t1) (u := t2) (v := t3) ho (small_one h1 h2 h3 h4) ?_
  refine pi_one (tk := s1.toks) I1 { cls := .type "range_iterator", data := .fields #[rawInt lo, rawInt (Builtin.Range.rangeSize lo hi 1), rawInt 1] } (turn_range (P := X.prog) (w := X.w) (K := X.K) (tg := tg) s1.heap.objs.size lo (hi - lo).toNat) ?_ q
  · have a1 : lo + ((0 : Nat) : Int) * 1 = lo := by simp
    have a2 : (((hi - lo).toNat : Nat) : Int) - ((0 : Nat) : Int) = Builtin.Range.rangeSize lo hi 1 := by rw [rangeSize_one]; split <;> omega
    show IsRangeIter _ _ (lo + ((0 : Nat) : Int) * 1) ((((hi - lo).toNat : Nat) : Int) - ((0 : Nat) : Int)) 1
    rw [a1, a2]
    exact Heap.get?_push_size _ rfl
end
section
variable {K : PySem.W.Frag} {σ : L2.St} {H : Hp} {te : TE} {Q : VK} {g : TG} {n : Int} {R : It → Hp → Prop}
theorem g_uRng (k : ∀ p H', H p = none → Same H H' → H' p = some (.rng 0 n) → Q (.ref p) H') : uRng [.int n] H Q := ⟨n, rfl, n_new k⟩
def gRng0 (x : V) (H1 : Hp) (R : It → Hp → Prop) : Prop := ∃ (p : Addr) (lo hi : Int), x = .ref p ∧ H1 p = some (.rng lo hi) ∧ (-(2 ^ 62) ≤ lo ∧ lo < 2 ^ 62 ∧ -(2 ^ 62) ≤ hi ∧ hi < 2 ^ 62) ∧ R (Itr lo (hi - lo).toNat) H1
theorem i_rng0 (k : te σ H fun x H1 => gRng0 x H1 R) : iRng0 te σ H R := k
theorem g_rng0 {p : Addr} {lo hi : Int} (h : H p = some (.rng lo hi)) (c : -(2 ^ 62) ≤ lo ∧ lo < 2 ^ 62 ∧ -(2 ^ 62) ≤ hi ∧ hi < 2 ^ 62) (k : R (Itr lo (hi - lo).toNat) H) : gRng0 (.ref p) H R := ⟨p, lo, hi, rfl, h, c, k⟩
def gRevR (x : V) (H1 : Hp) (R : It → Hp → Prop) : Prop := ∃ n : Int, x = .int n ∧ -(2 ^ 62) ≤ (0 : Int) ∧ (0 : Int) < 2 ^ 62 ∧ -(2 ^ 62) ≤ n ∧ n < 2 ^ 62 ∧ R (Itc (0 + (((n - 0).toNat : Nat) : Int) - 1) (-1) (n - 0).toNat) H1
theorem i_revR (k : te σ H fun x H1 => gRevR x H1 R) : iRevR (tRg1 te) σ H R := k
theorem g_revR {m : Nat} (c : m < 2 ^ 62) (k : R (Itc ((m : Int) - 1) (-1) m) H) : gRevR (.int (m : Int)) H R := by
  refine ⟨m, rfl, by omega, by omega, by omega, by omega, ?_⟩
  rw [Int.sub_zero, Int.toNat_natCast, Int.zero_add]
  exact k
/-- a for over a range from its end -/
theorem f_rngC {m : Nat} {tu : TS} {a b c : L2.St → Hp → Prop} {d : VK} (Pv : Nat → L2.St → Hp → Prop) (h0 : Pv 0 σ H)
    (hs : ∀ i σ H, i < m → Pv i σ H → g (.int ((m - 1 - i : Nat) : Int)) σ H fun σ2 H2 => tu ⟨Pv (i + 1), d, a, Pv (i + 1)⟩ σ2 H2) (hd : ∀ σ H, Pv m σ H → a σ H) : gFor (Itc ((m : Int) - 1) (-1) m) g tu ⟨a, d, b, c⟩ σ H :=
  f_it walk_rangeC Pv h0 (fun _ _ _ _ _ => trivial) (fun i x σ H H' hi p y => by
    obtain ⟨e, e2⟩ := y
    subst e e2
    have z : (m : Int) - 1 + (i : Nat) * (-1) = ((m - 1 - i : Nat) : Int) := by omega
    show g (.int ((m : Int) - 1 + (i : Nat) * (-1))) σ _ _
    rw [z]
    exact hs i σ _ hi p) hd
theorem bt_range : bootBuiltins "range" = some (.type "range") := by decide +kernel
/-- products of wide numbers -/
theorem mul_nb {x y : Int} {m n : Nat} (hx : x.natAbs < 2 ^ m) (hy : y.natAbs < 2 ^ n) (h : m + n < 1000000) : CMulW x y := by
  unfold CMulW
  have z : ∀ {v : Int} {k : Nat}, v.natAbs < 2 ^ k → v.natAbs.log2 ≤ k := fun {v k} hv => by
    by_cases h0 : v.natAbs = 0
    · rw [h0]; simp
    · exact Nat.le_of_lt ((Nat.log2_lt h0).mpr hv)
  have := z hx
  have := z hy
  omega
theorem log_nb {v : Int} {k : Nat} (hv : v.natAbs < 2 ^ k) : v.natAbs.log2 ≤ k := by
  by_cases h0 : v.natAbs = 0
  · rw [h0]; simp
  · exact Nat.le_of_lt ((Nat.log2_lt h0).mpr hv)
theorem g_divW {x y : Int} {k : Nat} (h0 : 0 < y) (hy : y.natAbs < 2 ^ k) (hk : k < 9000) (q : Q (.int (x / y)) H) : uDiv (.int x) (.int y) H Q := ⟨x, y, rfl, rfl, .inr ⟨h0, Nat.lt_of_le_of_lt (log_nb hy) hk⟩, q⟩
theorem g_mulW {x y : Int} (c : CMulW x y) (k : Q (.int (x * y)) H) : uMul (.int x) (.int y) H Q := ⟨x, y, rfl, rfl, .inr c, k⟩
end
end Eg

set_option Elab.async false
set_option linter.all false
set_option maxRecDepth 100000
set_option maxHeartbeats 4000000
/-! two lists walked together -/
namespace Eg
open PySem PySem.Spec PyProof.Rows L2 Rl SX
section
variable {K : PySem.W.Frag} {σ : L2.St} {H : Hp} {tr : TA} {g : TG} {R : It → Hp → Prop} {tu : TS} {a b c : L2.St → Hp → Prop} {d : VK}
def gZip (K : PySem.W.Frag) (vs : List V) (H : Hp) (R : It → Hp → Prop) : Prop := ∃ a b xs ys, vs = [.ref a, .ref b] ∧ SqL K H a xs ∧ SqL K H b ys ∧ R (Itz K a b) H
theorem i_zip (k : tr σ H fun vs H1 => gZip K vs H1 R) : iZip K tr σ H R := k
theorem g_zip {p q : Addr} {xs ys : List V} (h1 : SqL K H p xs) (h2 : SqL K H q ys) (k : R (Itz K p q) H) : gZip K [.ref p, .ref q] H R := ⟨p, q, xs, ys, rfl, h1, h2, k⟩
theorem f_zip {p q : Addr} {xs ys : List V} (hl : xs.length = ys.length) (Pv : Nat → L2.St → Hp → Prop) (h0 : Pv 0 σ H) (hk : ∀ i σ H, i ≤ xs.length → Pv i σ H → SqL K H p xs ∧ SqL K H q ys)
    (hs : ∀ i x y σ H T H', xs[i]? = some x → ys[i]? = some y → Pv i σ H → H T = none → Same H H' → H' T = some (.tup [x, y]) → g (.ref T) σ H' fun σ2 H2 => tu ⟨Pv (i + 1), d, a, Pv (i + 1)⟩ σ2 H2) (hd : ∀ σ H, Pv xs.length σ H → a σ H) : gFor (Itz K p q) g tu ⟨a, d, b, c⟩ σ H :=
  f_it (walk_zip (n := xs.length) (by omega)) Pv h0 hk (fun i v σ H H' hi p y => by
    obtain ⟨T, x, y, e1, e2, e3, e4, e5⟩ := y
    subst e1 e3
    exact hs i x y σ H T _ e4 e5 p e2 (fun b u e => by rw [upd_ne (ne_of_none e e2)]; exact e) upd_same) hd
end
end Eg

set_option Elab.async false
set_option linter.all false
set_option maxRecDepth 100000
set_option maxHeartbeats 4000000
/-! methods that may raise; .get of a dict at the module's top -/
namespace Eg
open PySem PySem.Spec PyProof.Rows L2 Rl SX
structure MthX (P : Program) (w : World) (K : PySem.W.Frag) (mg : Str → Option Value) (base : Heap) (k : Nat) (C : Addr) (x : Str) (ps : List Str) (sp : Sp) : Prop where
  ex : ∃ (f : Addr) (fd : FuncData), FnOk P w K mg base (L2.CX P w) k f fd ps sp ∧ Meth K C x f ∧ Binds K fd ps []
  cl : Cls K C
def tMethS (C : Addr) (m : Str) (sp : Sp) (E : L2.St → XK) (ta : TE) (t : TA) : TE := fun σ H Q => ta σ H fun x H1 => ∃ a dx fs, x = .ref a ∧ H1 a = some (.ins C dx fs) ∧ fs.lookup m = none ∧ t σ H1 fun vs H2 => sp (x :: vs) H2 Q (E σ)
section
variable {X : Cx} {k : Nat} {x : Str} {ps : List Str} {sp : Sp} {p pos apos : Pos} {o e f : Expr} {es : List Expr} {t : TA} {ta td ty tx : TE} {C : Addr} {W : WX} {m : Str}
theorem pe_mthS (D : MthX X.prog X.w X.K X.mg X.base k C m ps sp) (hr : Room k X.A) {pl : Sem Bool} (tk : Takes X W) (ho : PE X o ta) (ha : PA X (e :: es) t)
    (hst : starEach (e :: es) X.env = (false, eval e X.env) :: starEach es X.env := by rfl) (hpl : (backTo pos (starEach es X.env)).any (·.1) = false := by rfl)
    (ht : eval (.Call (.Attribute o m apos) (e :: es) [] pos) X.env = (do
      let ov ← eval o X.env
      standAt apos.atName
      let (f, first) ← holding [ov] (getMethod ov m pl)
      callWith pos f first (backTo pos (starEach (e :: es) X.env)) (backToKw pos (keywordEach [] X.env))) := by rfl) :
    PE X (.Call (.Attribute o m apos) (e :: es) [] pos) (tMethS C m sp (WE W) ta t) := by
  obtain ⟨g, fd, F, hm, hb⟩ := D.ex
  refine ⟨fun pins s σ H Q I h => ?_⟩
  refine PySem.W.methodCall_KW (pl := pl) (thn (ho.run pins s σ H _ I h) fun u s1 ⟨y, H1, I1, ry, a, dx, fs, ey, ea, l, q⟩ => ?_) ht
  subst ey
  cases ry
  refine getmeth_ok I1 ea D.cl hm l ?_
  refine PySem.W.callWith_K (first := [.ref a]) (h₀ := X.base) I.ok.mod.kin hm.kp (thn (ha.run pos pins s1 σ H1 _ I1 q) fun us s2 ⟨vs, H2, I2, r, q2⟩ => ⟨I2.kIn, ?_⟩) hst hpl
  exact run_fnS (us := .ref a :: us) (vs := .ref a :: vs) F hr hb ((fun σ => passAt tk σ) σ) I2 (.cons rfl r) q2
/-- d.get(x, y) of a dict at the module's top that has no such key -/
def tKGet2 (K : PySem.W.Frag) (w : World) (td ty tx : TE) : TE := fun σ H Q => td σ H fun x H1 => ∃ a z, x = .ref a ∧ KMiss K w a z ∧ ty σ H1 fun y H2 => y = .str z ∧ tx σ H2 Q
theorem pe_kget2 (ho : PE X o td) (he : PE X e ty) (hf : PE X f tx) (m : M2 X o "get" apos e f pos) : PE X (.Call (.Attribute o "get" apos) [e, f] [] pos) (tKGet2 X.K X.w td ty tx) := by
  refine ⟨fun pins s σ H Q I h => ?_⟩
  refine wpAny_Call_method m.base m.few m.line PySem.F.plainAttrs_dict PySem.F.slot_dict_get PySem.F.type_dict_get (thn (ho.run pins s σ H _ I h) fun u s1 ⟨x, H1, I1, rx, a, z, ex, miss, q1⟩ => ?_)
  subst ex
  cases rx
  obtain ⟨es, n, hl, hk, low, hn⟩ := miss
  have hm := PySem.W.mapOf_K (prog := X.prog) (w := X.w) I1.kIn hl hk
  refine ⟨hm.typeIs, ?_, ?_⟩
  · intro b e
    cases e
    exact ⟨_, I1.kIn _ _ hl, rfl⟩
  rw [m.trees]
  refine Calls.callWith_builtin rfl (Calls.evalArgs_plain (Calls.spliced_cons (thn (he.run pins s1 σ H1 _ I1 q1) fun iv s2 ⟨y, H2, I2, ry, ey, q2⟩ =>
    Calls.spliced_cons (thn (hf.run pins s2 σ H2 _ I2 q2) fun fv s3 ⟨v, H3, I3, rv, q3⟩ => Calls.spliced_nil ?_))))
  subst ey
  obtain ⟨t, rfl⟩ := ry
  have hm3 := PySem.W.mapOf_K (prog := X.prog) (w := X.w) I3.kIn hl hk
  refine call_meetsIn PySem.F.slot_dict_get hm3.typeIs PySem.F.entry_dict_get (PySem.F.args_dict_get_3 _ _ _) (meets_dict_get_default (strKind X.prog X.w) a (strKind_is X.prog X.w z t) ?_ fv) ?_
  · exact low
  · refine ⟨_, hm3, ?_⟩
    rw [PySem.W.find_K hl hn]
    exact ⟨v, H3, I3.tok _, rv, q3⟩
end
section
variable {K : PySem.W.Frag} {σ : L2.St} {H : Hp} {te ty tx : TE} {tr : TA} {Q : VK} {sp : Sp} {E : L2.St → XK} {C : Addr} {m : Str} {w : World}
theorem i_callS (k : tr σ H fun vs H1 => sp vs H1 Q (E σ)) : tCallS sp E tr σ H Q := k
def gMethS (C : Addr) (m : Str) (sp : Sp) (E : L2.St → XK) (t : TA) (x : V) (σ : L2.St) (H : Hp) (Q : VK) : Prop := ∃ a dx fs, x = .ref a ∧ H a = some (.ins C dx fs) ∧ fs.lookup m = none ∧ t σ H fun vs H2 => sp (x :: vs) H2 Q (E σ)
theorem i_methS (k : te σ H fun x H1 => gMethS C m sp E tr x σ H1 Q) : tMethS C m sp E te tr σ H Q := k
theorem g_methS {dx a : Addr} {fs : List (Str × V)} (h : H a = some (.ins C dx fs)) (l : fs.lookup m = none) (k : tr σ H fun vs H2 => sp (.ref a :: vs) H2 Q (E σ)) : gMethS C m sp E tr (.ref a) σ H Q := ⟨a, dx, fs, rfl, h, l, k⟩
/-- a text so often -/
theorem fold_rep (a : List Nat) : ∀ (m : Nat) (acc : Array Nat), (List.replicate m a.toArray).foldl (· ++ ·) acc = acc ++ ((List.replicate m a).flatten).toArray
  | 0, acc => by simp
  | m + 1, acc => by
    rw [List.replicate_succ, List.foldl_cons, fold_rep a m, List.replicate_succ, List.flatten_cons]
    simp
def uMulS : R2 := fun x y H Q => ∃ (a : List Nat) (n : Nat), x = .str (S a) ∧ y = .int (n : Int) ∧ 2 ≤ n ∧ n ≤ 1000 ∧ a ≠ [] ∧ a.length ≤ 10000 ∧ Q (.str (S ((List.replicate n a).flatten))) H
theorem op_mulS {X : Cx} : OpR X (binaryOp .Mult) uMulS := by
  intro pins s σ H x y v u Q I rx ry ⟨a, n, e1, e2, h2, hn, ha, hl, q⟩
  subst e1 e2
  obtain ⟨t, rfl⟩ := rx
  obtain ⟨t', rfl⟩ := ry
  have hlen : (S a).length = a.length := by simp [S, Str.length]
  have hpos : 0 < a.length := List.length_pos_iff.mpr ha
  have hmul : a.length * n ≤ 10000 * 1000 := Nat.mul_le_mul hl hn
  have z1 : ((n : Int) == 1) = false := by
    rw [beq_eq_false_iff_ne]
    omega
  have z2 : ((S a).length == 0) = false := by
    rw [hlen, beq_eq_false_iff_ne]
    omega
  have hne : ((n : Int) == 1 || (S a).length == 0) = false := by rw [z1, z2]; rfl
  have hN : ((n : Int)).toNat = n := Int.toNat_natCast n
  refine P.mul_str (by rw [decide_eq_false (by omega), decide_eq_false (by omega)]; rfl) (fun _ _ => ?_) (fun _ _ => ?_) ?_
  · rw [hlen]
    refine Int.not_lt.mpr (Int.le_ediv_of_mul_le (by omega) ?_)
    rw [← Int.natCast_mul]
    omega
  · unfold Builtin.Str.tooLong
    rw [hlen, hN, sizeLine_eq]
    exact decide_eq_false (by omega)
  · rw [if_neg (by omega), hne, if_neg (by simp), hN]
    have e : (⟨List.foldl (fun x1 x2 => x1 ++ x2) #[] (List.replicate n (S a).cps)⟩ : Str) = S ((List.replicate n a).flatten) := by
      have h := fold_rep a n #[]
      rw [Array.empty_append] at h
      exact congrArg Str.mk h
    rw [e]
    refine ⟨?_, .str (S ((List.replicate n a).flatten)), H, I.tok _, ⟨_, rfl⟩, q⟩
    have hl2 : (S (List.replicate n a).flatten).length = n * a.length := by simp [S, Str.length]
    rw [hl2, sizeLine_eq, Nat.mul_comm]
    omega
theorem g_mulS {a : List Nat} {n : Nat} {H : Hp} {Q : VK} (h2 : 2 ≤ n) (hn : n ≤ 1000) (ha : a ≠ []) (hl : a.length ≤ 10000) (k : Q (.str (S ((List.replicate n a).flatten))) H) : uMulS (.str (S a)) (.int (n : Int)) H Q := ⟨a, n, rfl, rfl, h2, hn, ha, hl, k⟩
theorem i_kget {K : PySem.W.Frag} {w : World} {td ty tx : TE} {σ : L2.St} {H : Hp} {Q : VK} (k : td σ H fun x H1 => ∃ a z, x = .ref a ∧ KMiss K w a z ∧ ty σ H1 fun y H2 => y = .str z ∧ tx σ H2 Q) : tKGet2 K w td ty tx σ H Q := k
end
end Eg

set_option Elab.async false
set_option linter.all false
set_option maxRecDepth 100000
set_option maxHeartbeats 4000000
/-! quiet defs: bodies that make no exception within; they may be called where one is handled -/
namespace Eg
open PySem PySem.Spec PyProof.Rows L2 Rl SX
/-- nothing is known of what is handled -/
abbrev quiet (X : Cx) : Cx := { X with calm := false }
structure FnQ (P : Program) (w : World) (K : PySem.W.Frag) (mg : Str → Option Value) (base : Heap) (k : Nat) (f : Addr) (fd : FuncData) (ps : List Str) (sp : Sp) : Prop where
  len : ∀ vs H Q E, sp vs H Q E → vs.length = ps.length
  run : ∀ (A : Around) (outer : List Env) (s : Shared) (H : Hp) (args : Args) (us : List Value) (vs : List V) (Q : VK), L2H.RoomH k A → Env0 P w K mg base A outer s H → BindsTo s fd args (ps.zip us) → Vals vs us → sp vs H Q E0 →
    codeAny (model P w) A (.call (.ref f) args) (CR CX0 outer P w H s Q E0) s
theorem FnQ.mono {P : Program} {w : World} {K : PySem.W.Frag} {mg : Str → Option Value} {base : Heap} {j k : Nat} {f : Addr} {fd : FuncData} {ps : List Str} {sp : Sp} (F : FnQ P w K mg base j f fd ps sp) (h : j ≤ k) : FnQ P w K mg base k f fd ps sp :=
  ⟨F.len, fun A outer s H args us vs Q hr => F.run A outer s H args us vs Q (hr.mono h)⟩
theorem inv_around {X : Cx} {A : Around} {xe : Value → Shared → Prop} {pins : List (Addr × Obj)} {σ : L2.St} {H : Hp} {s : Shared} (I : Inv X pins σ H s) (hf : A.frames = some X.stack) : Inv { X with A := A, calm := false, xe := xe } pins σ H s :=
  ⟨⟨I.ok.mod, I.ok.kind, I.ok.glob, I.ok.blt, I.ok.above, I.ok.inj, I.ok.has, I.ok.cab, fun h => Bool.noConfusion (show false = true from h), hf, I.ok.stk, I.ok.exf, I.ok.bs, I.ok.bsz, I.ok.noex, I.ok.exfs, I.ok.funs, I.ok.frf⟩,
    I.os, I.bare, I.base, I.loc, I.cell, I.free, I.freeC, I.pin, I.hok, I.len⟩
section
variable {P : Program} {w : World} {K : PySem.W.Frag} {mg : Str → Option Value} {base : Heap}
theorem env0_mark {A : Around} {outer : List Env} {s : Shared} {H : Hp} (e : Env0 P w K mg base A outer s H) : Env0 P w K mg base { A with handled := none } outer s H := ⟨e.frames, e.mod, e.bs, e.bsz, e.funs, e.frf, e.hok, e.bare⟩
theorem okQ {x qual : Str} {st : Stmt} {f : Addr} {fd : FuncData} {N ps : List Str} {k : Nat} {sp : Sp} (F : Fun K x qual st f fd) (S : FnScope N ps (defScope st)) (len : ∀ vs H Q E, sp vs H Q E → vs.length = ps.length)
    (hbody : ∀ (cdv : Value) (A : Around) (outer : List Env) (s : Shared) (H : Hp) (vs : List V) (Q : VK) (E : XK), L2H.RoomH k (A.deeper (envOfC qual (defScope st) s.heap.objs.size f cdv)) → sp vs H Q E →
      ∃ t, PSs (quiet (cxOf CX0 P w K mg base N qual (defScope st) f cdv A outer s H E).nox) (defBody st) t ∧ t { nx := fun _ H' => Q .non H', rt := Q } (start N vs) H) : FnQ P w K mg base (k + 1) f fd ps sp := by
  obtain ⟨oc, od, kV, doc, pm, an, cdv, ct, osl, rfl, lk, hcd⟩ := F.ex
  refine ⟨len, fun A outer s H args us vs Q hr e0 hb r hsp => ?_⟩
  have hl := len _ _ _ _ hsp
  have KX : K.In s.heap := e0.mod.kin.keeps fun b o e => (e0.bs b o e).1
  have hkind : ∀ y ∈ ps.zip us, (defScope st).names.lookup y.1 = some .local ∨ ((defScope st).names.lookup y.1 = some .cell ∧ ((cellsFrom (s.heap.objs.size + 1) (defScope st).names []).lookup y.1).isSome = true) := fun ⟨n, v⟩ hy => by
    rcases S.par n (List.of_mem_zip hy).1 with q | q
    · exact .inl q
    · exact .inr ⟨q, PySem.W.cellsFrom_some _ _ _ (.inl q)⟩
  refine codeAny_call_function hr.depth (KX _ _ lk) rfl S.co S.gen rfl (PySem.W.codeRec_of KX hcd) (hb _ _ _ _ ?_)
  refine wpAny_newFunctionEnv_cells S.kind hkind fun env he s1 x => ?_
  subst he
  refine ⟨(e0.mod.nolimit.keeps fun b o e => (e0.bs b o e).1).keeps x.toInCall.keep, codeAny_func ?_⟩
  obtain ⟨t, ht, hq⟩ := hbody cdv A outer s H vs Q E0 (hr.deeper _) hsp
  have I0 := inv_start (CX := CX0) (E := E0) (f := f) (cd := cdv) S (show ({ A with handled := none } : Around).handled = none from rfl) (env0_mark e0) hl r x
  have I : Inv (quiet (cxOf CX0 P w K mg base N qual (defScope st) f cdv A outer s H E0)) [] (start N vs) H s1 := inv_around (X := cxOf CX0 P w K mg base N qual (defScope st) f cdv { A with handled := none } outer s H E0) (A := A.deeper (envOfC qual (defScope st) s.heap.objs.size f cdv)) I0 (Around.frames_deeper e0.frames)
  refine wpAny_mono ((PSs.nox (X := quiet (cxOf CX0 P w K mg base N qual (defScope st) f cdv A outer s H E0)) ht).run [] s1 (start N vs) H _ I hq) (fun fl s' hs => ?_) fun e s' hs => hs
  cases fl with
  | ret u =>
    obtain ⟨v, σ', H', J, rv, q⟩ := hs
    exact ⟨v, H', J.os, J.bare, J.base, J.hok, rv, q⟩
  | next =>
    obtain ⟨σ', H', J, q⟩ := hs
    exact ⟨.non, H', J.os, J.bare, J.base, J.hok, rfl, q⟩
  | brk => exact hs.elim fun _ h => h.elim fun _ h => h.2.elim
  | cont => exact hs.elim fun _ h => h.elim fun _ h => h.2.elim
end
section
variable {X : Cx} {k : Nat} {f C : Addr} {fd : FuncData} {ps : List Str} {sp : Sp} {x m : Str} {p pos apos : Pos} {o e : Expr} {es : List Expr} {ta : TE} {t : TA}
theorem run_fnQ {pins : List (Addr × Obj)} {σ : L2.St} {H : Hp} {s : Shared} {Q : VK} {us : List Value} {vs : List V} (F : FnQ X.prog X.w X.K X.mg X.base k f fd ps sp) (hr : L2H.RoomH k X.A) (hb : Binds X.K fd ps [])
    (I : Inv X pins σ H s) (r : Vals vs us) (h : sp vs H Q E0) : wpAny (model X.prog X.w) X.A (call (.ref f) us) (EP X pins σ Q) X.xe s := by
  have hl : us.length = ps.length := by rw [← r.length]; exact F.len _ _ _ _ h
  have b := hb s us I.kIn (by rw [List.append_nil]; exact hl)
  rw [List.append_nil] at b
  refine wpAny_call (codeAny_mono (F.run X.A X.stack s H ⟨us, []⟩ us vs Q hr I.env0 b r h) fun r s' hq => ?_)
  cases r with
  | error e => exact False.elim hq
  | ok fl =>
    cases fl with
    | ret u => exact I.after hq
    | next => exact False.elim hq
    | brk => exact False.elim hq
    | cont => exact False.elim hq
structure MthQ (P : Program) (w : World) (K : PySem.W.Frag) (mg : Str → Option Value) (base : Heap) (k : Nat) (C : Addr) (x : Str) (ps : List Str) (sp : Sp) : Prop where
  ex : ∃ (f : Addr) (fd : FuncData), FnQ P w K mg base k f fd ps sp ∧ Meth K C x f ∧ Binds K fd ps []
  cl : Cls K C
structure DfnQ (P : Program) (w : World) (K : PySem.W.Frag) (mg : Str → Option Value) (base : Heap) (k : Nat) (x : Str) (ps : List Str) (sp : Sp) : Prop where
  ex : ∃ (f : Addr) (fd : FuncData), FnQ P w K mg base k f fd ps sp ∧ mg x = some (.ref f) ∧ PySem.W.keepIn K (.ref f) = true ∧ Binds K fd ps []
theorem pe_dfnQ (D : DfnQ X.prog X.w X.K X.mg X.base k x ps sp) (hr : L2H.RoomH k X.A) (hg : Gl X x) (ha : PA X (e :: es) t)
    (hdb : (x == ("__debug__" : Str)) = false := by decide) (he : starEach (e :: es) X.env = (false, eval e X.env) :: starEach es X.env := by rfl) (hpl : (backTo pos (starEach es X.env)).any (·.1) = false := by rfl) :
    PE X (.Call (.Name x p) (e :: es) [] pos) (tCall sp [] E0 t) := by
  obtain ⟨f, fd, F, hm, hk, hb⟩ := D.ex
  refine ⟨fun pins s σ H Q I h => ?_⟩
  refine wpAny_Call_Name_kw (ld_glob I hg hm ?_ hdb)
  refine PySem.W.callWith_K (h₀ := X.base) I.ok.mod.kin hk (thn (ha.run pos pins s σ H _ I h) fun us s1 ⟨vs, H1, I1, r, q⟩ => ⟨I1.kIn, ?_⟩) he hpl
  simp only [List.append_nil] at q
  exact run_fnQ F hr hb I1 r q
theorem pe_mthQ (D : MthQ X.prog X.w X.K X.mg X.base k C m ps sp) (hr : L2H.RoomH k X.A) {pl : Sem Bool} (ho : PE X o ta) (ha : PA X (e :: es) t)
    (hst : starEach (e :: es) X.env = (false, eval e X.env) :: starEach es X.env := by rfl) (hpl : (backTo pos (starEach es X.env)).any (·.1) = false := by rfl)
    (ht : eval (.Call (.Attribute o m apos) (e :: es) [] pos) X.env = (do
      let ov ← eval o X.env
      standAt apos.atName
      let (f, first) ← holding [ov] (getMethod ov m pl)
      callWith pos f first (backTo pos (starEach (e :: es) X.env)) (backToKw pos (keywordEach [] X.env))) := by rfl) :
    PE X (.Call (.Attribute o m apos) (e :: es) [] pos) (tMeth C m sp [] E0 ta t) := by
  obtain ⟨g, fd, F, hm, hb⟩ := D.ex
  refine ⟨fun pins s σ H Q I h => ?_⟩
  refine PySem.W.methodCall_KW (pl := pl) (thn (ho.run pins s σ H _ I h) fun u s1 ⟨y, H1, I1, ry, a, dx, fs, ey, ea, l, q⟩ => ?_) ht
  subst ey
  cases ry
  refine getmeth_ok I1 ea D.cl hm l ?_
  refine PySem.W.callWith_K (first := [.ref a]) (h₀ := X.base) I.ok.mod.kin hm.kp (thn (ha.run pos pins s1 σ H1 _ I1 q) fun us s2 ⟨vs, H2, I2, r, q2⟩ => ⟨I2.kIn, ?_⟩) hst hpl
  simp only [List.append_nil] at q2
  exact run_fnQ (us := .ref a :: us) (vs := .ref a :: vs) F hr hb I2 (.cons rfl r) q2
theorem pe_mthQ0 (D : MthQ X.prog X.w X.K X.mg X.base k C m ps sp) (hr : L2H.RoomH k X.A) {pl : Sem Bool} (ho : PE X o ta)
    (ht : eval (.Call (.Attribute o m apos) [] [] pos) X.env = (do
      let ov ← eval o X.env
      standAt apos.atName
      let (f, first) ← holding [ov] (getMethod ov m pl)
      callWith pos f first (backTo pos (starEach [] X.env)) (backToKw pos (keywordEach [] X.env))) := by rfl) :
    PE X (.Call (.Attribute o m apos) [] [] pos) (tMeth C m sp [] E0 ta tNil) := by
  obtain ⟨g, fd, F, hm, hb⟩ := D.ex
  refine ⟨fun pins s σ H Q I h => ?_⟩
  refine PySem.W.methodCall_KW (pl := pl) (thn (ho.run pins s σ H _ I h) fun u s1 ⟨y, H1, I1, ry, a, dx, fs, ey, ea, l, q⟩ => ?_) ht
  subst ey
  cases ry
  refine getmeth_ok I1 ea D.cl hm l ?_
  exact PySem.W.callWith_K0 (first := [.ref a]) I1.kIn hm.kp (run_fnQ (us := [.ref a]) (vs := [.ref a]) F hr hb I1 (.cons rfl .nil) q)
end
end Eg
theorem L2H.RoomH.units {k : Nat} {A : PySem.Around} (r : L2H.RoomH k A) : A.units + 64 < PySem.cLine := by have := r.un; omega
theorem hu_ofH {A : PySem.Around} {k : Nat} (hr : L2H.RoomH k A) : A.units + 1 < PySem.cLine := by have := hr.un; omega

set_option Elab.async false
set_option linter.all false
set_option maxRecDepth 100000
set_option maxHeartbeats 4000000
namespace L04
open PySem PySem.Spec PyProof.Rows L2 Rl Eg
def top (i : Nat) : Stmt := PySem.Challenge.pw_whoeverwins_k04_lines_and_their_checks.main.body.getD i (.Pass ⟨0, 0, 0, 0⟩)
abbrev st_TooMany_init : Stmt := inClass (top 2) 0
abbrev n_TooMany_init : List Str := ["self", "what"]
theorem sc_TooMany_init : FnScope n_TooMany_init ["self", "what"] (defScope st_TooMany_init) := ⟨rfl, rfl, rfl, by decide +kernel, rfl, by decide +kernel, by decide +kernel⟩
abbrev st_bound : Stmt := top 7
abbrev n_bound : List Str := ["what", "number"]
theorem sc_bound : FnScope n_bound ["what", "number"] (defScope st_bound) := ⟨rfl, rfl, rfl, by decide +kernel, rfl, by decide +kernel, by decide +kernel⟩
abbrev st_is_number : Stmt := top 10
abbrev n_is_number : List Str := ["word", "sign"]
theorem sc_is_number : FnScope n_is_number ["word"] (defScope st_is_number) := ⟨rfl, rfl, rfl, by decide +kernel, rfl, by decide +kernel, by decide +kernel⟩
abbrev st_too_great : Stmt := top 11
abbrev n_too_great : List Str := ["word"]
theorem sc_too_great : FnScope n_too_great ["word"] (defScope st_too_great) := ⟨rfl, rfl, rfl, by decide +kernel, rfl, by decide +kernel, by decide +kernel⟩
abbrev st_number_of : Stmt := top 12
abbrev n_number_of : List Str := ["word"]
theorem sc_number_of : FnScope n_number_of ["word"] (defScope st_number_of) := ⟨rfl, rfl, rfl, by decide +kernel, rfl, by decide +kernel, by decide +kernel⟩
abbrev st_log_line : Stmt := top 17
abbrev n_log_line : List Str := ["number", "words", "total", "at", "sign"]
theorem sc_log_line : FnScope n_log_line ["number", "words"] (defScope st_log_line) := ⟨rfl, rfl, rfl, by decide +kernel, rfl, by decide +kernel, by decide +kernel⟩
abbrev st_right_words : Stmt := top 18
abbrev n_right_words : List Str := ["words", "sign"]
theorem sc_right_words : FnScope n_right_words ["words"] (defScope st_right_words) := ⟨rfl, rfl, rfl, by decide +kernel, rfl, by decide +kernel, by decide +kernel⟩
abbrev st_line_words : Stmt := top 19
abbrev n_line_words : List Str := ["piece", "number", "parts"]
theorem sc_line_words : FnScope n_line_words ["piece", "number"] (defScope st_line_words) := ⟨rfl, rfl, rfl, by decide +kernel, rfl, by decide +kernel, by decide +kernel⟩
abbrev st_numbered_words : Stmt := top 20
abbrev n_numbered_words : List Str := ["piece", "number", "words"]
theorem sc_numbered_words : FnScope n_numbered_words ["piece"] (defScope st_numbered_words) := ⟨rfl, rfl, rfl, by decide +kernel, rfl, by decide +kernel, by decide +kernel⟩
abbrev st_Disk_init : Stmt := inClass (top 22) 0
abbrev n_Disk_init : List Str := ["self", "power"]
theorem sc_Disk_init : FnScope n_Disk_init ["self", "power"] (defScope st_Disk_init) := ⟨rfl, rfl, rfl, by decide +kernel, rfl, by decide +kernel, by decide +kernel⟩
abbrev st_Disk_spend : Stmt := inClass (top 22) 1
abbrev n_Disk_spend : List Str := ["self"]
theorem sc_Disk_spend : FnScope n_Disk_spend ["self"] (defScope st_Disk_spend) := ⟨rfl, rfl, rfl, by decide +kernel, rfl, by decide +kernel, by decide +kernel⟩
abbrev st_Disk_write : Stmt := inClass (top 22) 2
abbrev n_Disk_write : List Str := ["self", "file", "text", "many"]
theorem sc_Disk_write : FnScope n_Disk_write ["self", "file", "text"] (defScope st_Disk_write) := ⟨rfl, rfl, rfl, by decide +kernel, rfl, by decide +kernel, by decide +kernel⟩
abbrev st_Disk_trim : Stmt := inClass (top 22) 4
abbrev n_Disk_trim : List Str := ["self", "file", "signs"]
theorem sc_Disk_trim : FnScope n_Disk_trim ["self", "file", "signs"] (defScope st_Disk_trim) := ⟨rfl, rfl, rfl, by decide +kernel, rfl, by decide +kernel, by decide +kernel⟩
abbrev st_Disk_carry : Stmt := inClass (top 22) 5
abbrev n_Disk_carry : List Str := ["self", "item"]
theorem sc_Disk_carry : FnScope n_Disk_carry ["self", "item"] (defScope st_Disk_carry) := ⟨rfl, rfl, rfl, by decide +kernel, rfl, by decide +kernel, by decide +kernel⟩
abbrev st_Disk_sync : Stmt := inClass (top 22) 6
abbrev n_Disk_sync : List Str := ["self", "item"]
theorem sc_Disk_sync : FnScope n_Disk_sync ["self"] (defScope st_Disk_sync) := ⟨rfl, rfl, rfl, by decide +kernel, rfl, by decide +kernel, by decide +kernel⟩
abbrev st_Disk_read : Stmt := inClass (top 22) 7
abbrev n_Disk_read : List Str := ["self", "file"]
theorem sc_Disk_read : FnScope n_Disk_read ["self", "file"] (defScope st_Disk_read) := ⟨rfl, rfl, rfl, by decide +kernel, rfl, by decide +kernel, by decide +kernel⟩
abbrev st_Disk_waiting : Stmt := inClass (top 22) 8
abbrev n_Disk_waiting : List Str := ["self", "item"]
theorem sc_Disk_waiting : FnScope n_Disk_waiting ["self"] (defScope st_Disk_waiting) := ⟨rfl, rfl, rfl, by decide +kernel, rfl, by decide +kernel, by decide +kernel⟩
abbrev st_Disk_again : Stmt := inClass (top 22) 9
abbrev n_Disk_again : List Str := ["self", "keep", "power", "found", "files", "file", "left", "item", "many"]
theorem sc_Disk_again : FnScope n_Disk_again ["self", "keep", "power"] (defScope st_Disk_again) := ⟨rfl, rfl, rfl, by decide +kernel, rfl, by decide +kernel, by decide +kernel⟩
abbrev st_done_to : Stmt := top 23
abbrev n_done_to : List Str := ["files", "item", "kind", "file", "what", "text"]
theorem sc_done_to : FnScope n_done_to ["files", "item"] (defScope st_done_to) := ⟨rfl, rfl, rfl, by decide +kernel, rfl, by decide +kernel, by decide +kernel⟩
abbrev st_items_in : Stmt := top 24
abbrev n_items_in : List Str := ["item"]
theorem sc_items_in : FnScope n_items_in ["item"] (defScope st_items_in) := ⟨rfl, rfl, rfl, by decide +kernel, rfl, by decide +kernel, by decide +kernel⟩
abbrev st_slot_value : Stmt := top 27
abbrev n_slot_value : List Str := ["disk", "slot", "most", "text", "found"]
theorem sc_slot_value : FnScope n_slot_value ["disk", "slot", "most"] (defScope st_slot_value) := ⟨rfl, rfl, rfl, by decide +kernel, rfl, by decide +kernel, by decide +kernel⟩
abbrev st_newest_snap : Stmt := top 28
abbrev n_newest_snap : List Str := ["disk", "most", "first", "second"]
theorem sc_newest_snap : FnScope n_newest_snap ["disk", "most"] (defScope st_newest_snap) := ⟨rfl, rfl, rfl, by decide +kernel, rfl, by decide +kernel, by decide +kernel⟩
abbrev st_recover : Stmt := top 32
abbrev n_recover : List Str := ["disk", "pieces", "rows", "at", "words", "end"]
theorem sc_recover : FnScope n_recover ["disk"] (defScope st_recover) := ⟨rfl, rfl, rfl, by decide +kernel, rfl, by decide +kernel, by decide +kernel⟩
abbrev st_signs_of : Stmt := top 33
abbrev n_signs_of : List Str := ["rows", "at", "words"]
theorem sc_signs_of : FnScope n_signs_of ["rows"] (defScope st_signs_of) := ⟨rfl, rfl, rfl, by decide +kernel, rfl, by decide +kernel, by decide +kernel⟩
abbrev st_Store_init : Stmt := inClass (top 34) 0
abbrev n_Store_init : List Str := ["self", "disk", "rows", "end", "snap"]
theorem sc_Store_init : FnScope n_Store_init ["self", "disk"] (defScope st_Store_init) := ⟨rfl, rfl, rfl, by decide +kernel, rfl, by decide +kernel, by decide +kernel⟩
abbrev st_Store_append : Stmt := inClass (top 34) 1
abbrev n_Store_append : List Str := ["self", "words", "number"]
theorem sc_Store_append : FnScope n_Store_append ["self", "words"] (defScope st_Store_append) := ⟨rfl, rfl, rfl, by decide +kernel, rfl, by decide +kernel, by decide +kernel⟩
abbrev st_Store_sync : Stmt := inClass (top 34) 2
abbrev n_Store_sync : List Str := ["self"]
theorem sc_Store_sync : FnScope n_Store_sync ["self"] (defScope st_Store_sync) := ⟨rfl, rfl, rfl, by decide +kernel, rfl, by decide +kernel, by decide +kernel⟩
abbrev st_Store_rows : Stmt := inClass (top 34) 3
abbrev n_Store_rows : List Str := ["self"]
theorem sc_Store_rows : FnScope n_Store_rows ["self"] (defScope st_Store_rows) := ⟨rfl, rfl, rfl, by decide +kernel, rfl, by decide +kernel, by decide +kernel⟩
abbrev st_law_log_line : Stmt := top 36
abbrev n_law_log_line : List Str := ["number", "words", "total", "at"]
theorem sc_law_log_line : FnScope n_law_log_line ["number", "words"] (defScope st_law_log_line) := ⟨rfl, rfl, rfl, by decide +kernel, rfl, by decide +kernel, by decide +kernel⟩
abbrev st_law_log_text : Stmt := top 37
abbrev n_law_log_text : List Str := ["rows", "at"]
theorem sc_law_log_text : FnScope n_law_log_text ["rows"] (defScope st_law_log_text) := ⟨rfl, rfl, rfl, by decide +kernel, rfl, by decide +kernel, by decide +kernel⟩
abbrev st_law_signs : Stmt := top 38
abbrev n_law_signs : List Str := []
theorem sc_law_signs : FnScope n_law_signs [] (defScope st_law_signs) := ⟨rfl, rfl, rfl, by decide +kernel, rfl, by decide +kernel, by decide +kernel⟩
abbrev st_law_words : Stmt := top 39
abbrev n_law_words : List Str := ["stock", "most", "signs", "found", "turn", "kind"]
theorem sc_law_words : FnScope n_law_words ["stock", "most"] (defScope st_law_words) := ⟨rfl, rfl, rfl, by decide +kernel, rfl, by decide +kernel, by decide +kernel⟩
abbrev st_law_stock : Stmt := top 40
abbrev n_law_stock : List Str := ["script", "at", "cell", "size", "small", "one"]
theorem sc_law_stock : FnScope n_law_stock ["script", "at"] (defScope st_law_stock) := ⟨rfl, rfl, rfl, by decide +kernel, rfl, by decide +kernel, by decide +kernel⟩
abbrev st_law_draw : Stmt := top 41
abbrev n_law_draw : List Str := ["stock", "many", "found"]
theorem sc_law_draw : FnScope n_law_draw ["stock", "many"] (defScope st_law_draw) := ⟨rfl, rfl, rfl, by decide +kernel, rfl, by decide +kernel, by decide +kernel⟩
abbrev st_law_matches : Stmt := top 42
abbrev n_law_matches : List Str := ["answer", "due", "at"]
theorem sc_law_matches : FnScope n_law_matches ["answer", "due"] (defScope st_law_matches) := ⟨rfl, rfl, rfl, by decide +kernel, rfl, by decide +kernel, by decide +kernel⟩
abbrev st_law_k04_signs : Stmt := top 43
abbrev n_law_k04_signs : List Str := ["stock", "over", "words", "disk", "store", "kept", "refused", "line", "number", "e"]
theorem sc_law_k04_signs : FnScope n_law_k04_signs ["stock", "over"] (defScope st_law_k04_signs) := ⟨rfl, rfl, rfl, by decide +kernel, rfl, by decide +kernel, by decide +kernel⟩
abbrev st_law_k04_long : Stmt := top 44
abbrev n_law_k04_long : List Str := ["many", "disk", "store", "e", "number", "turn"]
theorem sc_law_k04_long : FnScope n_law_k04_long ["many"] (defScope st_law_k04_long) := ⟨rfl, rfl, rfl, by decide +kernel, rfl, by decide +kernel, by decide +kernel⟩
abbrev st_law : Stmt := top 45
abbrev n_law : List Str := ["script", "stock", "more", "rows", "number", "words", "disk", "store", "first", "at", "told", "back", "turn", "many"]
theorem sc_law : FnScope n_law ["script"] (defScope st_law) := ⟨rfl, rfl, rfl, by decide +kernel, rfl, by decide +kernel, by decide +kernel⟩
structure Ad where
  a_Disk : Addr
  a_Store : Addr
  a_LIMITS : Addr
  a_SLOTS : Addr
  a_TOLD : Addr
  a_TooMany : Addr
  a_WinsError : Addr
structure Txt (K : PySem.W.Frag) (w : World) (mg : Str → Option Value) (Z : Ad) : Prop where
  b_ValueError : mg "ValueError" = none
  b_abs : mg "abs" = none
  b_all : mg "all" = none
  b_any : mg "any" = none
  b_bool : mg "bool" = none
  b_enumerate : mg "enumerate" = none
  b_int : mg "int" = none
  b_isinstance : mg "isinstance" = none
  b_len : mg "len" = none
  b_list : mg "list" = none
  b_max : mg "max" = none
  b_min : mg "min" = none
  b_ord : mg "ord" = none
  b_range : mg "range" = none
  b_str : mg "str" = none
  b_sum : mg "sum" = none
  b_tuple : mg "tuple" = none
  c_DIGITS : ∃ t, mg "DIGITS" = some (.str "0123456789" t)
  c_GREATEST : ∃ t, mg "GREATEST" = some (.int (126) t)
  c_LEAST : ∃ t, mg "LEAST" = some (.int (32) t)
  c_LIMITS : mg "LIMITS" = some (.ref Z.a_LIMITS)
  k_LIMITS_lines : KDct K w Z.a_LIMITS "lines" (.int 300)
  k_LIMITS_words : KDct K w Z.a_LIMITS "words" (.int 60)
  k_LIMITS_number : KDct K w Z.a_LIMITS "number" (.int 1000000000000000000000000000000)
  k_LIMITS_depth : KDct K w Z.a_LIMITS "depth" (.int 20)
  k_LIMITS_blocks : KDct K w Z.a_LIMITS "blocks" (.int 12)
  k_LIMITS_lanes : KDct K w Z.a_LIMITS "lanes" (.int 6)
  k_LIMITS_rungs : KDct K w Z.a_LIMITS "rungs" (.int 40)
  k_LIMITS_ways : KDct K w Z.a_LIMITS "ways" (.int 8)
  k_LIMITS_promises : KDct K w Z.a_LIMITS "promises" (.int 20)
  k_LIMITS_variables : KDct K w Z.a_LIMITS "variables" (.int 4)
  k_LIMITS_states : KDct K w Z.a_LIMITS "states" (.int 400)
  k_LIMITS_rows : KDct K w Z.a_LIMITS "rows" (.int 600)
  k_LIMITS_events : KDct K w Z.a_LIMITS "events" (.int 3000)
  k_LIMITS_meetings : KDct K w Z.a_LIMITS "meetings" (.int 3000)
  k_LIMITS_housemeetings : KDct K w Z.a_LIMITS "housemeetings" (.int 400)
  k_LIMITS_rounds : KDct K w Z.a_LIMITS "rounds" (.int 300)
  k_LIMITS_late : KDct K w Z.a_LIMITS "late" (.int 6)
  k_LIMITS_plan : KDct K w Z.a_LIMITS "plan" (.int 200)
  k_LIMITS_nodes : KDct K w Z.a_LIMITS "nodes" (.int 2000)
  k_LIMITS_players : KDct K w Z.a_LIMITS "players" (.int 60)
  k_LIMITS_log : KDct K w Z.a_LIMITS "log" (.int 2000)
  k_LIMITS_signs : KDct K w Z.a_LIMITS "signs" (.int 2000)
  c_LOG : ∃ t, mg "LOG" = some (.str "log" t)
  c_PRIME : ∃ t, mg "PRIME" = some (.int (9973) t)
  c_SLOTS : mg "SLOTS" = some (.ref Z.a_SLOTS)
  t_SLOTS : ∀ H, SqT K H Z.a_SLOTS [.str "snapa", .str "snapb"]
  c_TOLD : mg "TOLD" = some (.ref Z.a_TOLD)
  k_TOLD_blocks : KDct K w Z.a_TOLD "blocks" (.str "depth")
  k_TOLD_states : KDct K w Z.a_TOLD "states" (.str "variables")
  k_TOLD_housemeetings : KDct K w Z.a_TOLD "housemeetings" (.str "meetings")
  m_TOLD_log : KMiss K w Z.a_TOLD "log"
  m_TOLD_signs : KMiss K w Z.a_TOLD "signs"
  o_TooMany : OexC K Z.a_TooMany
  x_TooMany : XfC K Z.a_TooMany
  g_TooMany : mg "TooMany" = some (.ref Z.a_TooMany)
  m_TooMany : PySem.W.exmOne K (.ref Z.a_TooMany) (.ref Z.a_TooMany) = some true
  n_TooMany_what : PySem.W.findIn K (.ref Z.a_TooMany) "what" = some none
  g_WinsError : mg "WinsError" = some (.ref Z.a_WinsError)
  wg_WinsError : PySem.W.specialIn K (.ref Z.a_WinsError) "__getattribute__" = some (some (.builtin "type.__getattribute__"))
  wr_WinsError : PySem.W.readsIn K Z.a_WinsError (.type "type") = true
  wv_WinsError : PySem.W.findCls K (.ref Z.a_WinsError) (.type "type") "__init__" = some (.val (.builtin "ValueError.__init__"))
  l_Disk : Cls K Z.a_Disk
  n_Disk_power_now : NoAttr K Z.a_Disk "power_now"
  n_Disk_files_now : NoAttr K Z.a_Disk "files_now"
  n_Disk_files_kept : NoAttr K Z.a_Disk "files_kept"
  n_Disk_waiting_list : NoAttr K Z.a_Disk "waiting_list"
  l_Store : Cls K Z.a_Store
  n_Store_disk_kept : NoAttr K Z.a_Store "disk_kept"
  n_Store_rows_list : NoAttr K Z.a_Store "rows_list"
  f_TooMany_init : ∃ f fd, Fun K "__init__" "TooMany.__init__" st_TooMany_init f fd ∧ PySem.W.findIn K (.ref Z.a_TooMany) "__init__" = some (some (.ref f)) ∧ PySem.W.typeIn K (.ref f) = some (.type "function") ∧ Binds K fd ["self", "what"] []
  f_bound : ∃ f fd, Fun K "bound" "bound" st_bound f fd ∧ mg "bound" = some (.ref f) ∧ Binds K fd ["what", "number"] []
  f_is_number : ∃ f fd, Fun K "is_number" "is_number" st_is_number f fd ∧ mg "is_number" = some (.ref f) ∧ Binds K fd ["word"] []
  f_too_great : ∃ f fd, Fun K "too_great" "too_great" st_too_great f fd ∧ mg "too_great" = some (.ref f) ∧ Binds K fd ["word"] []
  f_number_of : ∃ f fd, Fun K "number_of" "number_of" st_number_of f fd ∧ mg "number_of" = some (.ref f) ∧ Binds K fd ["word"] []
  f_log_line : ∃ f fd, Fun K "log_line" "log_line" st_log_line f fd ∧ mg "log_line" = some (.ref f) ∧ Binds K fd ["number", "words"] []
  f_right_words : ∃ f fd, Fun K "right_words" "right_words" st_right_words f fd ∧ mg "right_words" = some (.ref f) ∧ Binds K fd ["words"] []
  f_line_words : ∃ f fd, Fun K "line_words" "line_words" st_line_words f fd ∧ mg "line_words" = some (.ref f) ∧ Binds K fd ["piece", "number"] []
  f_numbered_words : ∃ f fd, Fun K "numbered_words" "numbered_words" st_numbered_words f fd ∧ mg "numbered_words" = some (.ref f) ∧ Binds K fd ["piece"] []
  f_Disk_init : ∃ f fd, Fun K "__init__" "Disk.__init__" st_Disk_init f fd ∧ Mk K Z.a_Disk f ∧ mg "Disk" = some (.ref Z.a_Disk) ∧ Binds K fd ["self", "power"] []
  f_Disk_spend : ∃ f fd, Fun K "spend" "Disk.spend" st_Disk_spend f fd ∧ Meth K Z.a_Disk "spend" f ∧ Binds K fd ["self"] []
  f_Disk_write : ∃ f fd, Fun K "write" "Disk.write" st_Disk_write f fd ∧ Meth K Z.a_Disk "write" f ∧ Binds K fd ["self", "file", "text"] []
  f_Disk_trim : ∃ f fd, Fun K "trim" "Disk.trim" st_Disk_trim f fd ∧ Meth K Z.a_Disk "trim" f ∧ Binds K fd ["self", "file", "signs"] []
  f_Disk_carry : ∃ f fd, Fun K "carry" "Disk.carry" st_Disk_carry f fd ∧ Meth K Z.a_Disk "carry" f ∧ Binds K fd ["self", "item"] []
  f_Disk_sync : ∃ f fd, Fun K "sync" "Disk.sync" st_Disk_sync f fd ∧ Meth K Z.a_Disk "sync" f ∧ Binds K fd ["self"] []
  f_Disk_read : ∃ f fd, Fun K "read" "Disk.read" st_Disk_read f fd ∧ Meth K Z.a_Disk "read" f ∧ Binds K fd ["self", "file"] []
  f_Disk_waiting : ∃ f fd, Fun K "waiting" "Disk.waiting" st_Disk_waiting f fd ∧ Meth K Z.a_Disk "waiting" f ∧ Binds K fd ["self"] []
  f_Disk_again : ∃ f fd, Fun K "again" "Disk.again" st_Disk_again f fd ∧ Meth K Z.a_Disk "again" f ∧ Binds K fd ["self", "keep", "power"] []
  f_done_to : ∃ f fd, Fun K "done_to" "done_to" st_done_to f fd ∧ mg "done_to" = some (.ref f) ∧ Binds K fd ["files", "item"] []
  f_items_in : ∃ f fd, Fun K "items_in" "items_in" st_items_in f fd ∧ mg "items_in" = some (.ref f) ∧ Binds K fd ["item"] []
  f_slot_value : ∃ f fd, Fun K "slot_value" "slot_value" st_slot_value f fd ∧ mg "slot_value" = some (.ref f) ∧ Binds K fd ["disk", "slot", "most"] []
  f_newest_snap : ∃ f fd, Fun K "newest_snap" "newest_snap" st_newest_snap f fd ∧ mg "newest_snap" = some (.ref f) ∧ Binds K fd ["disk", "most"] []
  f_recover : ∃ f fd, Fun K "recover" "recover" st_recover f fd ∧ mg "recover" = some (.ref f) ∧ Binds K fd ["disk"] []
  f_signs_of : ∃ f fd, Fun K "signs_of" "signs_of" st_signs_of f fd ∧ mg "signs_of" = some (.ref f) ∧ Binds K fd ["rows"] []
  f_Store_init : ∃ f fd, Fun K "__init__" "Store.__init__" st_Store_init f fd ∧ Mk K Z.a_Store f ∧ mg "Store" = some (.ref Z.a_Store) ∧ Binds K fd ["self", "disk"] []
  f_Store_append : ∃ f fd, Fun K "append" "Store.append" st_Store_append f fd ∧ Meth K Z.a_Store "append" f ∧ Binds K fd ["self", "words"] []
  f_Store_sync : ∃ f fd, Fun K "sync" "Store.sync" st_Store_sync f fd ∧ Meth K Z.a_Store "sync" f ∧ Binds K fd ["self"] []
  f_Store_rows : ∃ f fd, Fun K "rows" "Store.rows" st_Store_rows f fd ∧ Meth K Z.a_Store "rows" f ∧ Binds K fd ["self"] []
  f_law_log_line : ∃ f fd, Fun K "_law_log_line" "_law_log_line" st_law_log_line f fd ∧ mg "_law_log_line" = some (.ref f) ∧ Binds K fd ["number", "words"] []
  f_law_log_text : ∃ f fd, Fun K "_law_log_text" "_law_log_text" st_law_log_text f fd ∧ mg "_law_log_text" = some (.ref f) ∧ Binds K fd ["rows"] []
  f_law_signs : ∃ f fd, Fun K "_law_signs" "_law_signs" st_law_signs f fd ∧ mg "_law_signs" = some (.ref f) ∧ Binds K fd [] []
  f_law_words : ∃ f fd, Fun K "_law_words" "_law_words" st_law_words f fd ∧ mg "_law_words" = some (.ref f) ∧ Binds K fd ["stock", "most"] []
  f_law_stock : ∃ f fd, Fun K "_law_stock" "_law_stock" st_law_stock f fd ∧ mg "_law_stock" = some (.ref f) ∧ Binds K fd ["script", "at"] []
  f_law_draw : ∃ f fd, Fun K "_law_draw" "_law_draw" st_law_draw f fd ∧ mg "_law_draw" = some (.ref f) ∧ Binds K fd ["stock", "many"] []
  f_law_matches : ∃ f fd, Fun K "_law_matches" "_law_matches" st_law_matches f fd ∧ mg "_law_matches" = some (.ref f) ∧ Binds K fd ["answer", "due"] []
  f_law_k04_signs : ∃ f fd, Fun K "_law_k04_signs" "_law_k04_signs" st_law_k04_signs f fd ∧ mg "_law_k04_signs" = some (.ref f) ∧ Binds K fd ["stock", "over"] []
  f_law_k04_long : ∃ f fd, Fun K "_law_k04_long" "_law_k04_long" st_law_k04_long f fd ∧ mg "_law_k04_long" = some (.ref f) ∧ Binds K fd ["many"] []
  f_law : ∃ f fd, Fun K "law" "law" st_law f fd ∧ mg "law" = some (.ref f) ∧ Binds K fd ["script"] []
end L04

set_option Elab.async false
set_option linter.all false
set_option maxRecDepth 100000
set_option maxHeartbeats 4000000
/-! a text cut at most k times at one sign -/
namespace Sp
open PySem PySem.Builtin PySem.Builtin.Str PySem.StrLaws SX

theorem tight_lim (s sub : Str) (hi limit lo : Nat) (hw : 1 ≤ sub.length) : ∀ (m cur : Nat) (st : Array Nat × Nat), ChainG s sub hi lo st.fst.toList st.snd → (st.fst.size < limit → ∀ k, st.snd ≤ k → k < cur → ¬ At s sub hi k) → st.fst.size ≤ limit →
    ChainG s sub hi lo (forIn (List.range' cur m) st (occBody s sub hi limit)).run.fst.toList (forIn (List.range' cur m) st (occBody s sub hi limit)).run.snd ∧
    (forIn (List.range' cur m) st (occBody s sub hi limit)).run.fst.size ≤ limit ∧
    ((forIn (List.range' cur m) st (occBody s sub hi limit)).run.fst.size < limit → ∀ k, (forIn (List.range' cur m) st (occBody s sub hi limit)).run.snd ≤ k → k < cur + m → ¬ At s sub hi k)
  | 0, cur, st, h, hn, hl => ⟨h, hl, hn⟩
  | m + 1, cur, st, h, hn, hl => by
    rw [List.range'_succ, List.forIn_cons]
    unfold occBody
    have e : cur + (m + 1) = (cur + 1) + m := by omega
    rw [e]
    split
    · rename_i hc
      refine tight_lim s sub hi limit lo hw m (cur + 1) _ ?_ ?_ ?_
      · show ChainG s sub hi lo (st.fst.push cur).toList (cur + sub.length)
        rw [Array.toList_push]
        exact chainG_snoc h hc.1.1.2 ⟨hc.1.2, hc.2⟩ (hn hc.1.1.1)
      · intro _ k h1 h2
        have h1' : cur + sub.length ≤ k := h1
        omega
      · show (st.fst.push cur).size ≤ limit
        have := hc.1.1.1
        rw [Array.size_push]; omega
    · rename_i hc
      refine tight_lim s sub hi limit lo hw m (cur + 1) _ h ?_ hl
      intro hz k h1 h2 hA
      by_cases hk : k < cur
      · exact hn hz k h1 hk hA
      · have ek : k = cur := by omega
        subst ek
        exact hc ⟨⟨⟨hz, h1⟩, hA.1⟩, hA.2⟩
theorem occ_lim (x y : Str) (limit : Nat) (hw : 1 ≤ y.length) : ∃ f, ChainG x y x.length 0 (occurrences x y 0 x.length limit) f ∧ (occurrences x y 0 x.length limit).length ≤ limit ∧
    ((occurrences x y 0 x.length limit).length < limit → ∀ k, f ≤ k → ¬ At x y x.length k) := by
  rw [occ_eq]
  have key := tight_lim x y x.length limit 0 hw (x.length + 1 - 0) 0 ((#[] : Array Nat), 0) rfl (fun _ k _ h => by omega) (by simp)
  refine ⟨_, key.1, by simpa using key.2.1, fun hz k hk hA => ?_⟩
  exact key.2.2 (by simpa using hz) k hk (by have := hA.1; omega) hA

/-- l cut at c, k times at most; acc: what stands ahead of the first cut -/
def splN (c : Nat) : Nat → List Nat → List Nat → List (List Nat)
  | 0, acc, l => [acc ++ l]
  | _ + 1, acc, [] => [acc]
  | k + 1, acc, d :: r => if d = c then acc :: splN c k [] r else splN c (k + 1) (acc ++ [d]) r
theorem splN_nil (c k : Nat) (acc : List Nat) : splN c k acc [] = [acc] := by cases k <;> simp [splN]
theorem splN_hit (c k : Nat) (acc r : List Nat) : splN c (k + 1) acc (c :: r) = acc :: splN c k [] r := by simp [splN]
theorem splN_free {c k : Nat} : ∀ (p acc r : List Nat), c ∉ p → splN c (k + 1) acc (p ++ r) = splN c (k + 1) (acc ++ p) r
  | [], acc, r, _ => by simp
  | d :: p, acc, r, h => by
    have hd : d ≠ c := fun e => h (by simp [e])
    rw [List.cons_append, splN, if_neg hd, splN_free p _ r (fun q => h (List.mem_cons_of_mem _ q))]
    simp
theorem splN_part {c k : Nat} (p r : List Nat) (h : c ∉ p) : splN c (k + 1) [] (p ++ c :: r) = p :: splN c k [] r := by
  rw [splN_free p [] _ h, splN_hit]; simp
theorem splN_last {c k : Nat} (p : List Nat) (h : c ∉ p) : splN c k [] p = [p] := by
  cases k with
  | zero => simp [splN]
  | succ k =>
    have e := splN_free (k := k) p [] [] h
    rw [List.append_nil] at e
    rw [e, splN_nil]; simp
theorem parts_splN (x : Str) (c : Nat) : ∀ (k : Nat) (cuts : List Nat) (a f : Nat), a ≤ x.cps.toList.length → ChainG x (S [c]) x.length a cuts f → cuts.length ≤ k → (cuts.length < k → ∀ j, f ≤ j → ¬ At x (S [c]) x.length j) →
    (partsFrom x 1 a cuts).map (fun p => p.cps.toList) = splN c k [] (x.cps.toList.drop a)
  | k, [], a, f, ha, h, hk, hn => by
    have e : f = a := h
    subst e
    show [(strSub x f x.length).cps.toList] = _
    have e2 : (strSub x f x.length).cps.toList = x.cps.toList.drop f := TL.tl_strSub_end x f
    rw [e2]
    cases k with
    | zero => simp [splN]
    | succ k =>
      rw [splN_last]
      intro hm
      obtain ⟨j, hj⟩ := List.getElem?_of_mem hm
      rw [List.getElem?_drop] at hj
      have hlt : f + j < x.cps.toList.length := (List.getElem?_eq_some_iff.mp hj).1
      exact hn (by simp) (f + j) (by omega) ((subAt_one x c (f + j)).mpr hj)
  | 0, d :: r, a, f, ha, h, hk, hn => absurd hk (by simp)
  | k + 1, d :: r, a, f, ha, h, hk, hn => by
    obtain ⟨h1, h2, h3, h4⟩ := h
    have hd : x.cps.toList[d]? = some c := (subAt_one x c d).mp h2
    have hlt : d < x.cps.toList.length := (List.getElem?_eq_some_iff.mp hd).1
    have ih := parts_splN x c k r (d + 1) f (by omega) h4 (by simpa using hk) (fun hz => hn (by simpa using hz))
    show (strSub x a d).cps.toList :: (partsFrom x 1 (d + 1) r).map _ = _
    rw [ih, strSub_toList]
    have e : x.cps.toList.drop a = (x.cps.toList.drop a).take (d - a) ++ c :: x.cps.toList.drop (d + 1) := by
      have e1 := (List.take_append_drop (d - a) (x.cps.toList.drop a)).symm
      rw [List.drop_drop, show a + (d - a) = d by omega, List.drop_eq_getElem_cons hlt] at e1
      have e2 : x.cps.toList[d] = c := by
        have := List.getElem?_eq_getElem hlt
        rw [hd] at this
        exact (Option.some.inj this).symm
      rw [e2] at e1
      exact e1
    rw [e, splN_part, ← e]
    intro hm
    obtain ⟨j, hj⟩ := List.getElem?_of_mem hm
    have hj1 : j < d - a := by
      have := (List.getElem?_eq_some_iff.mp hj).1
      rw [List.length_take] at this
      omega
    rw [List.getElem?_take_of_lt hj1, List.getElem?_drop] at hj
    exact h3 (a + j) (by omega) (by omega) ((subAt_one x c (a + j)).mpr hj)
theorem splitMax_S {a : List Nat} {c : Nat} (hc : c < 256) (k : Nat) : Txt.splitMax (S a) (S [c]) (k : Int) = (splN c k [] a).map S := by
  refine TL.map_tl_inj ?_
  rw [map_S_tl]
  obtain ⟨f, h1, h2, h3⟩ := occ_lim (S a) (S [c]) k (by rw [S_len]; simp)
  have key := parts_splN (S a) c k _ 0 f (by simp) h1 h2 h3
  have hk : limitOf (S a) (k : Int) = k := by unfold limitOf; rw [if_neg (by omega)]; simp
  unfold Txt.splitMax
  rw [hk]
  have kind : decide (strKind (S a) < strKind (S [c])) = false := decide_eq_false (TL.kind_ok (all256 (b := [c]) (by simp [hc])))
  rw [kind, Bool.or_false]
  by_cases hl : (S a).length < (S [c]).length
  · rw [if_pos (by simpa using hl)]
    have : a = [] := by
      rw [S_len, S_len] at hl
      simpa using hl
    subst this
    rw [splN_nil]
    rfl
  · rw [if_neg (by simpa using hl)]
    cases ho : occurrences (S a) (S [c]) 0 (S a).length k with
    | nil =>
      rw [ho] at key
      rw [if_pos (by rfl)]
      simp only [partsFrom, sub_whole, List.drop_zero] at key
      exact key
    | cons d r =>
      rw [ho] at key
      rw [if_neg (by simp), partsBetween_eq]
      rw [List.drop_zero] at key
      exact key
end Sp

set_option Elab.async false
set_option linter.all false
set_option maxRecDepth 100000
set_option maxHeartbeats 4000000
/-! lines of a log, and what a cut log tells -/
namespace Lg
open PySem SX Sp TL

def ps (w : List Nat) : Nat → Nat
  | 0 => 0
  | i + 1 => ps w i + (i + 1) * w.getD i 0
def chk (n : Nat) (w : List Nat) : Nat := (n + ps w w.length) % 9973
def logL (n : Nat) (w : List Nat) : List Nat := numL n ++ (32 :: (numL w.length ++ (32 :: (numL (chk n w) ++ (32 :: w)))))
def okC (c : Nat) : Bool := decide (32 ≤ c) && decide (c ≤ 126)
def okW (w : List Nat) : Bool := decide (w.length ≤ 2000) && w.all okC
def lineW (p : List Nat) (n : Nat) : Option (List Nat) :=
  if (splN 32 3 [] p).length = 4 then (if okW ((splN 32 3 [] p).getD 3 []) = true ∧ logL n ((splN 32 3 [] p).getD 3 []) = p then some ((splN 32 3 [] p).getD 3 []) else none) else none
theorem sp_logL (n : Nat) (w : List Nat) : splN 32 3 [] (logL n w) = [numL n, numL w.length, numL (chk n w), w] := by
  unfold logL
  rw [splN_part _ _ (numL_free (by decide)), splN_part _ _ (numL_free (by decide)), splN_part _ _ (numL_free (by decide))]
  simp [splN]
theorem lineW_some {p : List Nat} {n : Nat} {w : List Nat} : lineW p n = some w ↔ okW w = true ∧ logL n w = p := by
  unfold lineW
  constructor
  · intro h
    split at h
    · split at h
      · rename_i h2
        cases h
        exact h2
      · cases h
    · cases h
  · rintro ⟨h1, h2⟩
    subst h2
    rw [sp_logL]
    exact (if_pos (by rfl)).trans (if_pos ⟨h1, rfl⟩)
theorem ps_bound (w : List Nat) (hw : ∀ c ∈ w, c ≤ 1114111) : ∀ i, ps w i ≤ i * i * 1114111
  | 0 => Nat.le_refl _
  | i + 1 => by
    have ih := ps_bound w hw i
    have h : w.getD i 0 ≤ 1114111 := by
      rw [List.getD_eq_getElem?_getD]
      cases h : w[i]? with
      | none => simp
      | some c => exact hw c (List.mem_of_getElem? h)
    show ps w i + (i + 1) * w.getD i 0 ≤ _
    have h2 : (i + 1) * w.getD i 0 ≤ (i + 1) * 1114111 := Nat.mul_le_mul_left _ h
    have e : (i + 1) * (i + 1) * 1114111 = i * i * 1114111 + (i + (i + 1)) * 1114111 := by
      rw [← Nat.add_mul]; congr 1; rw [Nat.mul_add, Nat.add_mul, Nat.mul_one, Nat.one_mul]; omega
    have h3 : (i + 1) * 1114111 ≤ (i + (i + 1)) * 1114111 := Nat.mul_le_mul_right _ (by omega)
    omega
/-- the text of lines k + 1, .. -/
def logT (k : Nat) : List (List Nat) → List Nat
  | [] => []
  | w :: r => logL (k + 1) w ++ 10 :: logT (k + 1) r
theorem logT_app : ∀ (k : Nat) (a b : List (List Nat)), logT k (a ++ b) = logT k a ++ logT (k + a.length) b
  | k, [], b => by simp [logT]
  | k, w :: a, b => by
    rw [List.cons_append, logT, logT, logT_app (k + 1) a b, List.length_cons, show k + (a.length + 1) = k + 1 + a.length by omega]
    simp
theorem okW_nl {w : List Nat} (h : okW w = true) : 10 ∉ w := fun hm => by
  unfold okW at h
  rw [Bool.and_eq_true, List.all_eq_true] at h
  have := h.2 10 hm
  exact absurd this (by decide)
theorem logL_nl {n : Nat} {w : List Nat} (h : okW w = true) : 10 ∉ logL n w := by
  unfold logL
  simp only [List.mem_append, List.mem_cons, not_or]
  exact ⟨numL_free (by decide), by decide, numL_free (by decide), by decide, numL_free (by decide), by decide, okW_nl h⟩

/-- how a log ends -/
inductive En
  | whole
  | cut (n : Nat)
  | spoilt (n : Nat)
  deriving DecidableEq
/-- the lines of pieces from the k-th on -/
def recP (k : Nat) : List (List Nat) → List (List Nat) × En
  | [] => ([], .whole)
  | [p] => ([], if p = [] then .whole else .cut (k + 1))
  | p :: q :: r => match lineW p (k + 1) with
    | none => ([], .spoilt (k + 1))
    | some w => (w :: (recP (k + 1) (q :: r)).1, (recP (k + 1) (q :: r)).2)
abbrev pcs (t : List Nat) : List (List Nat) := spl [10] 0 [] t
theorem pcs_line {p r : List Nat} (h : 10 ∉ p) : pcs (p ++ 10 :: r) = p :: pcs r := spl_free (sep := [10]) r (by simp) (free_head h)
theorem pcs_last {p : List Nat} (h : 10 ∉ p) : pcs p = [p] := by
  have := spl_join (c := 10) (sep := []) (parts := [p]) (by simp) (by simpa using h)
  exact this
theorem spl_ne (S : List Nat) : ∀ (l : List Nat) (k : Nat) (acc : List Nat), spl S k acc l ≠ []
  | [], k, acc => by rw [spl_nil]; simp
  | c :: l, 0, acc => by
    rw [spl]
    split
    · simp
    · exact spl_ne S l 0 _
  | c :: l, k + 1, acc => by
    rw [spl]
    exact spl_ne S l k _
theorem recP_line {p : List Nat} {q : List (List Nat)} {k : Nat} {w : List Nat} (hq : q ≠ []) (h : lineW p (k + 1) = some w) : recP k (p :: q) = (w :: (recP (k + 1) q).1, (recP (k + 1) q).2) := by
  cases q with
  | nil => exact absurd rfl hq
  | cons a r => simp only [recP, h]
theorem recP_logT : ∀ (k : Nat) (rows : List (List Nat)) (tail : List Nat), (∀ w ∈ rows, okW w = true) → 10 ∉ tail →
    recP k (pcs (logT k rows ++ tail)) = (rows, if tail = [] then .whole else .cut (k + rows.length + 1))
  | k, [], tail, _, ht => by
    rw [logT, List.nil_append, pcs_last ht]
    rfl
  | k, w :: rows, tail, hw, ht => by
    have h1 : okW w = true := hw w (by simp)
    rw [logT, List.append_assoc, List.cons_append, pcs_line (logL_nl h1), recP_line (spl_ne _ _ _ _) (lineW_some.mpr ⟨h1, rfl⟩), recP_logT (k + 1) rows tail (fun v hv => hw v (List.mem_cons_of_mem _ hv)) ht]
    rw [List.length_cons, show k + 1 + rows.length + 1 = k + (rows.length + 1) + 1 by omega]
/-- a log cut anywhere: whole lines, and a rest without a line feed -/
theorem cut_logT : ∀ (k : Nat) (rows : List (List Nat)) (j : Nat), (∀ w ∈ rows, okW w = true) →
    ∃ tail, (logT k rows).take j = logT k (rows.take (((logT k rows).take j).count 10)) ++ tail ∧ 10 ∉ tail ∧ ((logT k rows).take j).count 10 ≤ rows.length
  | k, [], j, _ => ⟨[], by simp [logT], by simp, by simp [logT]⟩
  | k, w :: rows, j, hw => by
    have h1 : okW w = true := hw w (by simp)
    have hn := logL_nl (n := k + 1) h1
    rw [logT]
    by_cases hj : j ≤ (logL (k + 1) w).length
    · have e : (logL (k + 1) w ++ 10 :: logT (k + 1) rows).take j = (logL (k + 1) w).take j := List.take_append_of_le_length hj
      have hf : 10 ∉ (logL (k + 1) w).take j := fun h => hn (List.mem_of_mem_take h)
      rw [e, List.count_eq_zero.mpr hf]
      exact ⟨_, by simp [logT], hf, Nat.zero_le _⟩
    · obtain ⟨tail, e1, e2, e3⟩ := cut_logT (k + 1) rows (j - (logL (k + 1) w).length - 1) (fun v hv => hw v (List.mem_cons_of_mem _ hv))
      have e : (logL (k + 1) w ++ 10 :: logT (k + 1) rows).take j = logL (k + 1) w ++ 10 :: (logT (k + 1) rows).take (j - (logL (k + 1) w).length - 1) := by
        rw [List.take_append, List.take_of_length_le (by omega)]
        congr 1
        obtain ⟨m, hm⟩ : ∃ m, j - (logL (k + 1) w).length = m + 1 := ⟨j - (logL (k + 1) w).length - 1, by omega⟩
        rw [hm, List.take_succ_cons, Nat.add_sub_cancel]
      have ec : (logL (k + 1) w ++ 10 :: (logT (k + 1) rows).take (j - (logL (k + 1) w).length - 1)).count 10 = ((logT (k + 1) rows).take (j - (logL (k + 1) w).length - 1)).count 10 + 1 := by
        rw [List.count_append, List.count_eq_zero.mpr hn, List.count_cons]
        simp
      rw [e, ec, List.take_succ_cons, logT]
      refine ⟨tail, ?_, e2, by simpa using e3⟩
      rw [List.append_assoc, List.cons_append, ← e1]
theorem logT_len_le (k : Nat) (rows : List (List Nat)) (m : Nat) : (logT k (rows.take m)).length ≤ (logT k rows).length := by
  have e := logT_app k (rows.take m) (rows.drop m)
  rw [List.take_append_drop] at e
  rw [e, List.length_append]
  omega
theorem logL_len {n : Nat} {w : List Nat} (hn : n < 10 ^ 10) (hw : w.length ≤ 2000) : (logL n w).length ≤ 2021 := by
  have h1 := numL_len (n := n) (k := 10) (by decide) hn
  have h2 := numL_len (n := w.length) (k := 4) (by decide) (by omega)
  have h3 : chk n w < 9973 := Nat.mod_lt _ (by decide)
  have h4 := numL_len (n := chk n w) (k := 4) (by decide) (by omega)
  unfold logL
  simp only [List.length_append, List.length_cons]
  omega
theorem logT_len : ∀ {rows : List (List Nat)} {k : Nat}, k + rows.length < 10 ^ 10 → (∀ w ∈ rows, w.length ≤ 2000) → (logT k rows).length ≤ rows.length * 2022
  | [], _, _, _ => by simp [logT]
  | w :: r, k, hk, hw => by
    rw [List.length_cons] at hk
    have h1 := logL_len (n := k + 1) (w := w) (by omega) (hw w (by simp))
    have h2 := logT_len (rows := r) (k := k + 1) (by omega) (fun v hv => hw v (List.mem_cons_of_mem _ hv))
    rw [logT, List.length_append, List.length_cons, List.length_cons]
    omega
theorem okW_len {w : List Nat} (h : okW w = true) : w.length ≤ 2000 := by
  unfold okW at h
  rw [Bool.and_eq_true, decide_eq_true_eq] at h
  exact h.1
theorem okW_sign {w : List Nat} (h : okW w = true) : ∀ c ∈ w, 32 ≤ c ∧ c ≤ 126 := fun c hc => by
  unfold okW at h
  rw [Bool.and_eq_true, List.all_eq_true] at h
  have := h.2 c hc
  unfold okC at this
  rw [Bool.and_eq_true, decide_eq_true_eq, decide_eq_true_eq] at this
  exact this
theorem okW_of {w : List Nat} (h : w.length ≤ 2000) (h2 : ∀ c ∈ w, 32 ≤ c ∧ c ≤ 126) : okW w = true := by
  unfold okW
  rw [Bool.and_eq_true, decide_eq_true_eq, List.all_eq_true]
  refine ⟨h, fun c hc => ?_⟩
  unfold okC
  rw [Bool.and_eq_true, decide_eq_true_eq, decide_eq_true_eq]
  exact h2 c hc
end Lg

set_option Elab.async false
set_option linter.all false
set_option maxRecDepth 100000
set_option maxHeartbeats 4000000
/-! files of a disk, items, what is taken up -/
namespace Lg
open PySem SX Sp TL PySem.Spec PyProof.Rows L2

abbrev Fl := List (Str × List Nat)
def fp (p : Str × List Nat) : Key × V := (.inr p.1, .str (S p.2))
def fk (l : Fl) : List (Key × V) := l.map fp
def gt (l : Fl) (f : Str) : List Nat := ((l.find? fun p => decide (p.1 = f)).map (·.2)).getD []
def pt (l : Fl) (f : Str) (x : List Nat) : Fl := if (l.any fun p => decide (p.1 = f)) = true then l.map (fun p => if p.1 = f then (p.1, x) else p) else l ++ [(f, x)]
theorem key_inj {a b : Str} : ((Sum.inr a : Key) = Sum.inr b) = (a = b) := by simp
theorem fk_get (l : Fl) (f : Str) : (valV (fk l) (.inr f)).getD (.str (S [])) = .str (S (gt l f)) := by
  induction l with
  | nil => rfl
  | cons p r ih =>
    unfold fk gt
    rw [List.map_cons]
    by_cases e : p.1 = f
    · rw [valV_pos (p := fp p) (by show (Sum.inr p.1 : Key) = _; rw [e])]
      simp [List.find?_cons, e, fp]
    · rw [valV_neg (p := fp p) (by show ¬ (Sum.inr p.1 : Key) = _; rw [key_inj]; exact e)]
      simp only [List.find?_cons, e, decide_false]
      exact ih
theorem fk_put (l : Fl) (f : Str) (x : List Nat) : putK (fk l) (.inr f) (.str (S x)) = fk (pt l f x) := by
  have ha : ((fk l).any fun kv => decide (kv.1 = (.inr f : Key))) = l.any fun p => decide (p.1 = f) := by
    unfold fk
    rw [List.any_map]
    congr 1
    funext p
    show decide ((Sum.inr p.1 : Key) = _) = _
    simp only [key_inj]
  unfold putK pt
  rw [ha]
  by_cases h : (l.any fun p => decide (p.1 = f)) = true
  · rw [if_pos h, if_pos h]
    unfold fk
    rw [List.map_map, List.map_map]
    congr 1
    funext p
    show (if (Sum.inr p.1 : Key) = Sum.inr f then _ else _) = fp (if p.1 = f then _ else _)
    simp only [key_inj]
    split <;> rfl
  · rw [if_neg h, if_neg h]
    unfold fk
    rw [List.map_append]
    rfl
theorem fk_len (l : Fl) : (fk l).length = l.length := by simp [fk]
theorem gt_nil (f : Str) : gt [] f = [] := rfl
def Nd (l : Fl) : Prop := (l.map (·.1)).Nodup
theorem pt_keys (l : Fl) (f : Str) (x : List Nat) : (pt l f x).map (·.1) = if (l.any fun p => decide (p.1 = f)) = true then l.map (·.1) else l.map (·.1) ++ [f] := by
  unfold pt
  split
  · rw [List.map_map]
    congr 1
    funext p
    show (if p.1 = f then (p.1, x) else p).1 = p.1
    split <;> rfl
  · simp
theorem Nd.put {l : Fl} (h : Nd l) (f : Str) (x : List Nat) : Nd (pt l f x) := by
  unfold Nd
  rw [pt_keys]
  split
  · exact h
  · rename_i hn
    refine List.nodup_append.mpr ⟨h, by simp, fun a ha b hb => ?_⟩
    rw [List.mem_singleton.mp hb]
    rintro rfl
    apply hn
    obtain ⟨p, hp, e⟩ := List.mem_map.mp ha
    exact List.any_eq_true.mpr ⟨p, hp, by simpa using e⟩
theorem Nd.nil : Nd [] := List.nodup_nil
theorem pt_len (l : Fl) (f : Str) (x : List Nat) : (pt l f x).length ≤ l.length + 1 := by
  unfold pt; split <;> simp
theorem gt_put (l : Fl) (f g : Str) (x : List Nat) : gt (pt l f x) g = if g = f then x else gt l g := by
  have h1 := fk_get (pt l f x) g
  rw [← fk_put, valV_put] at h1
  have h2 := fk_get l g
  by_cases e : g = f
  · rw [if_pos e]
    rw [if_pos (by rw [e])] at h1
    simp only [Option.getD_some, V.str.injEq] at h1
    exact (S_inj h1).symm
  · rw [if_neg e]
    rw [if_neg (by rw [key_inj]; exact e), h2] at h1
    simp only [V.str.injEq] at h1
    exact (S_inj h1).symm
/-- a copy, key by key -/
theorem pt_copy {l : Fl} (h : Nd l) {i : Nat} {p : Str × List Nat} (hi : l[i]? = some p) : pt (l.take i) p.1 p.2 = l.take (i + 1) := by
  have hlt := (List.getElem?_eq_some_iff.mp hi).1
  have hn : ¬ ((l.take i).any fun q => decide (q.1 = p.1)) = true := by
    intro hc
    obtain ⟨q, hq, e⟩ := List.any_eq_true.mp hc
    obtain ⟨j, hj, e2⟩ := List.mem_take_iff_getElem.mp hq
    have e3 : q.1 = p.1 := by simpa using e
    unfold Nd at h
    have hj' : j < i := by omega
    rw [List.nodup_iff_pairwise_ne, List.pairwise_iff_getElem] at h
    have := h j i (by rw [List.length_map]; omega) (by rw [List.length_map]; omega) hj'
    rw [List.getElem_map, List.getElem_map, e2] at this
    apply this
    rw [e3, (List.getElem?_eq_some_iff.mp hi).2]
  unfold pt
  rw [if_neg hn, List.take_add_one, hi]
  rfl
theorem gt_mem {l : Fl} (h : Nd l) {i : Nat} {p : Str × List Nat} (hi : l[i]? = some p) : gt l p.1 = p.2 ∧ valV (fk l) (.inr p.1) = some (.str (S p.2)) := by
  induction l generalizing i with
  | nil => cases hi
  | cons q r ih =>
    cases i with
    | zero =>
      simp only [List.getElem?_cons_zero, Option.some.injEq] at hi
      subst hi
      exact ⟨by simp [gt, List.find?_cons], valV_pos (p := fp q) rfl⟩
    | succ i =>
      rw [List.getElem?_cons_succ] at hi
      unfold Nd at h
      rw [List.map_cons, List.nodup_cons] at h
      have hne : ¬ q.1 = p.1 := fun e => h.1 (by rw [e]; exact List.mem_map.mpr ⟨p, List.mem_of_getElem? hi, rfl⟩)
      have := ih h.2 hi
      refine ⟨by unfold gt; simp only [List.find?_cons, hne, decide_false]; exact this.1, ?_⟩
      show valV (fp q :: fk r) _ = _
      rw [valV_neg (p := fp q) (by show ¬ (Sum.inr q.1 : Key) = _; rw [key_inj]; exact hne)]
      exact this.2
/-- items -/
inductive Itm where
  | w (f : Str) (x : List Nat)
  | t (f : Str) (n : Nat)
def Itm.vals : Itm → List V
  | .w f x => [.str "write", .str f, .str (S x)]
  | .t f n => [.str "trim", .str f, .int (n : Int)]
def Itm.many : Itm → Nat
  | .w _ x => x.length
  | .t _ _ => 1
def Itm.cut : Itm → Nat → Itm
  | .w f x, k => .w f (x.take k)
  | .t f n, _ => .t f n
def doIt (l : Fl) : Itm → Fl
  | .w f x => pt l f (gt l f ++ x)
  | .t f n => pt l f ((gt l f).take n)
def agn (l : Fl) : List Itm → Nat → Fl
  | [], _ => l
  | it :: r, left => agn (if it.many ≤ left then doIt l it else if 0 < left then doIt l (it.cut left) else l) r (left - it.many)
theorem Nd.doIt {l : Fl} (h : Nd l) (it : Itm) : Nd (doIt l it) := by
  cases it <;> exact h.put _ _
theorem doIt_len (l : Fl) (it : Itm) : (Lg.doIt l it).length ≤ l.length + 1 := by
  cases it <;> exact pt_len _ _ _
/-- bounds: so many signs in every file -/
def Bd (m : Nat) (l : Fl) : Prop := ∀ f, (gt l f).length ≤ m
theorem Bd.nil : Bd 0 [] := fun _ => Nat.le_refl _
theorem Bd.mono {m k : Nat} {l : Fl} (h : Bd m l) (hk : m ≤ k) : Bd k l := fun f => Nat.le_trans (h f) hk
def Itm.sz : Itm → Nat
  | .w _ x => x.length
  | .t _ _ => 0
theorem Bd.doIt {m : Nat} {l : Fl} (h : Bd m l) (it : Itm) : Bd (m + it.sz) (Lg.doIt l it) := by
  intro f
  cases it with
  | w g x =>
    show (gt (pt l g _) f).length ≤ m + x.length
    rw [gt_put]
    split
    · rw [List.length_append]
      have := h g
      omega
    · have := h f; omega
  | t g n =>
    show (gt (pt l g _) f).length ≤ m + 0
    rw [gt_put]
    split
    · rw [List.length_take]
      have := h g
      omega
    · exact h f
def szs (wt : List Itm) : Nat := (wt.map Itm.sz).sum
theorem cut_to (a : List Nat) (n : Nat) : cutS (S a) none (some (n : Int)) = S (a.take n) := by
  rw [C8.cutS_slice, slice_to (by omega), Int.toNat_natCast]
theorem cutV_to (xs : List V) (n : Nat) : cutV xs none (some (n : Int)) = xs.take n := by
  unfold cutV
  rw [HT.sIx_none, List.drop_zero, Nat.sub_zero, HT.sIx_nat]
  by_cases hn : n ≤ xs.length
  · rw [Nat.min_eq_left hn]
  · rw [List.take_of_length_le (by omega), List.take_of_length_le (by omega)]
end Lg
namespace Lg
open PySem SX Sp TL PySem.Spec PyProof.Rows L2
def OkF (l : Fl) : Prop := Nd l ∧ l.length < 1000 ∧ Bd 10000000 l
structure Dk where
  d : Addr
  dx : Addr
  d1 : Addr
  d2 : Addr
  wl : Addr
  now : Fl
  kept : Fl
  wt : List (Addr × Itm)
def Dk.its (D : Dk) : List Itm := D.wt.map (·.2)
structure DiskAt (C : Addr) (H : Hp) (D : Dk) : Prop where
  hd : H D.d = some (.ins C D.dx [("power_now", .non), ("files_now", .ref D.d1), ("files_kept", .ref D.d2), ("waiting_list", .ref D.wl)])
  h1 : H D.d1 = some (.dK (fk D.now))
  h2 : H D.d2 = some (.dK (fk D.kept))
  hw : H D.wl = some (.lst (D.wt.map fun p => .ref p.1))
  ht : ∀ p ∈ D.wt, H p.1 = some (.tup p.2.vals)
  hs : ∀ p ∈ D.wt, p.2.sz ≤ 5000000
  ne : D.d1 ≠ D.d2
  lw : D.wt.length ≤ 100000
  iv : D.now = D.its.foldl doIt D.kept
  ok : ∀ i, OkF ((D.its.take i).foldl doIt D.kept)
def Fresh (D : Dk) (H : Hp) : Prop := H D.d = none ∧ H D.d1 = none ∧ H D.d2 = none ∧ H D.wl = none
theorem DiskAt.okN {C : Addr} {H : Hp} {D : Dk} (h : DiskAt C H D) : OkF D.now := by
  have := h.ok D.its.length
  rw [List.take_length, ← h.iv] at this
  exact this
theorem DiskAt.okK {C : Addr} {H : Hp} {D : Dk} (h : DiskAt C H D) : OkF D.kept := h.ok 0
theorem OkF.nil : OkF [] := ⟨Nd.nil, by decide, Bd.nil.mono (by decide)⟩
theorem DiskAt.same {C : Addr} {H H' : Hp} {D : Dk} (h : DiskAt C H D) (e : Same H H') : DiskAt C H' D :=
  ⟨e _ _ h.hd, e _ _ h.h1, e _ _ h.h2, e _ _ h.hw, fun p m => e _ _ (h.ht p m), h.hs, h.ne, h.lw, h.iv, h.ok⟩
end Lg
namespace Lg
open PySem SX Sp TL PySem.Spec PyProof.Rows L2
def agn1 (l : Fl) (it : Itm) (left : Nat) : Fl := if it.many ≤ left then doIt l it else if 0 < left then doIt l (it.cut left) else l
def manys (its : List Itm) : Nat := (its.map Itm.many).sum
theorem agn_snoc : ∀ (its : List Itm) (l : Fl) (it : Itm) (left : Nat), agn l (its ++ [it]) left = agn1 (agn l its left) it (left - manys its)
  | [], l, it, left => by simp [agn, agn1, manys]
  | a :: r, l, it, left => by
    rw [List.cons_append, agn, agn_snoc r, agn, show left - manys (a :: r) = left - a.many - manys r by rw [manys, List.map_cons, List.sum_cons, manys]; omega]
theorem manys_snoc (its : List Itm) (it : Itm) : manys (its ++ [it]) = manys its + it.many := by simp [manys]
theorem manys_int (its : List Itm) : ((its.map fun it => (it.many : Int)).sum) = ((manys its : Nat) : Int) := by
  induction its with
  | nil => rfl
  | cons a r ih => rw [List.map_cons, List.sum_cons, ih, manys, manys, List.map_cons, List.sum_cons]; omega
end Lg

set_option Elab.async false
set_option linter.all false
set_option maxRecDepth 100000
set_option maxHeartbeats 4000000
/-! the one file of a log, line by line -/
namespace Lg
open PySem SX Sp TL PySem.Spec PyProof.Rows L2
def fl (x : List Nat) : Fl := if x = [] then [] else [("log", x)]
theorem gt_fl (x : List Nat) : gt (fl x) "log" = x := by
  unfold fl
  split
  · rename_i h; rw [h]; rfl
  · simp [gt]
theorem gt_flN (x : List Nat) {f : Str} (h : ¬ (("log" : Str) = f)) : gt (fl x) f = [] := by
  unfold fl
  split
  · rfl
  · simp [gt, h]
theorem sa : ¬ (("log" : Str) = "snapa") := by decide +kernel
theorem sb : ¬ (("log" : Str) = "snapb") := by decide +kernel
theorem do_fl (x y : List Nat) (h : y ≠ []) : doIt (fl x) (.w "log" y) = fl (x ++ y) := by
  show pt (fl x) "log" (gt (fl x) "log" ++ y) = _
  rw [gt_fl]
  have hy : x ++ y ≠ [] := by simp [h]
  have e : fl (x ++ y) = [(("log" : Str), x ++ y)] := if_neg hy
  rw [e]
  unfold fl
  split
  · rename_i hx; rfl
  · simp [pt]
def Sm (k m : Nat) (l : Fl) : Prop := Nd l ∧ l.length ≤ k ∧ Bd m l
theorem Sm.ok {k m : Nat} {l : Fl} (h : Sm k m l) (hk : k < 1000) (hm : m ≤ 10000000) : OkF l := ⟨h.1, Nat.lt_of_le_of_lt h.2.1 hk, h.2.2.mono hm⟩
theorem Sm.doIt {k m : Nat} {l : Fl} (h : Sm k m l) (it : Itm) : Sm (k + 1) (m + it.sz) (doIt l it) := ⟨h.1.doIt it, Nat.le_trans (doIt_len l it) (Nat.succ_le_succ h.2.1), h.2.2.doIt it⟩
theorem sm_fl (x : List Nat) : Sm 1 x.length (fl x) := by
  unfold fl
  split
  · exact ⟨Nd.nil, Nat.zero_le _, fun f => Nat.zero_le _⟩
  · refine ⟨by simp [Nd], Nat.le_refl _, fun f => ?_⟩
    by_cases e : ("log" : Str) = f
    · simp [gt, e]
    · simp [gt, e]
theorem ok_fl {x : List Nat} (h : x.length ≤ 10000000) : OkF (fl x) := (sm_fl x).ok (by decide) h
/-- the items of these lines -/
def lnT (k : Nat) (w : List Nat) : List Nat := logL (k + 1) w ++ [10]
def wI (k : Nat) : List (List Nat) → List Itm
  | [] => []
  | w :: r => .w "log" (lnT k w) :: wI (k + 1) r
theorem lnT_ne (k : Nat) (w : List Nat) : lnT k w ≠ [] := by simp [lnT]
theorem logT_cons (k : Nat) (w : List Nat) (r : List (List Nat)) : logT k (w :: r) = lnT k w ++ logT (k + 1) r := by simp [logT, lnT]
theorem wI_snoc : ∀ (k : Nat) (l : List (List Nat)) (w : List Nat), wI k (l ++ [w]) = wI k l ++ [.w "log" (lnT (k + l.length) w)]
  | k, [], w => rfl
  | k, a :: l, w => by
    rw [List.cons_append, wI, wI_snoc (k + 1) l w, wI, List.length_cons, show k + 1 + l.length = k + (l.length + 1) by omega]
    rfl
theorem wI_take : ∀ (k : Nat) (l : List (List Nat)) (i : Nat), (wI k l).take i = wI k (l.take i)
  | k, [], i => by simp [wI]
  | k, a :: l, 0 => by simp [wI]
  | k, a :: l, i + 1 => by rw [wI, List.take_succ_cons, List.take_succ_cons, wI, wI_take (k + 1) l i]
theorem manys_wI : ∀ (k : Nat) (l : List (List Nat)), manys (wI k l) = (logT k l).length
  | k, [] => rfl
  | k, a :: l => by
    rw [logT_cons, wI, manys, List.map_cons, List.sum_cons, List.length_append, ← manys_wI (k + 1) l]
    rfl
theorem agn_wI : ∀ (l : List (List Nat)) (k : Nat) (x : List Nat) (keep : Nat), agn (fl x) (wI k l) keep = fl (x ++ (logT k l).take keep)
  | [], k, x, keep => by simp [wI, agn, logT]
  | a :: l, k, x, keep => by
    rw [wI, agn, logT_cons]
    have hm : (Itm.w "log" (lnT k a)).many = (lnT k a).length := rfl
    have hne := lnT_ne k a
    have hp : 0 < (lnT k a).length := List.length_pos_iff.mpr hne
    rw [hm]
    by_cases h1 : (lnT k a).length ≤ keep
    · rw [if_pos h1, do_fl _ _ hne, agn_wI l (k + 1), List.take_append, List.take_of_length_le h1, List.append_assoc]
    · rw [if_neg h1, show keep - (lnT k a).length = 0 by omega]
      by_cases h2 : 0 < keep
      · rw [if_pos h2, show (Itm.w "log" (lnT k a)).cut keep = .w "log" ((lnT k a).take keep) from rfl, do_fl _ _ (by
          intro h
          have := congrArg List.length h
          rw [List.length_take, List.length_nil] at this
          omega), agn_wI l (k + 1), List.take_zero, List.append_nil, List.take_append_of_le_length (by omega)]
      · rw [if_neg h2, agn_wI l (k + 1), show keep = 0 by omega]
        simp
theorem count_S (x : List Nat) (c : Nat) : Txt.count (S x) (S [c]) = x.count c := by
  rw [show S [c] = ⟨#[c]⟩ from rfl, count_cnt]
  show cnt c x = _
  induction x with
  | nil => rfl
  | cons d r ih =>
    rw [cnt_cons, ih, List.count_cons]
    by_cases h : d = c
    · simp [h]; omega
    · simp [h]
end Lg
namespace Lg
open PySem SX Sp TL PySem.Spec PyProof.Rows L2
theorem logT_snoc (k : Nat) (l : List (List Nat)) (w : List Nat) : logT k (l ++ [w]) = logT k l ++ lnT (k + l.length) w := by
  rw [logT_app]; simp [logT, lnT]
theorem take_snoc {l : List (List Nat)} {i : Nat} {w : List Nat} (h : l[i]? = some w) : l.take (i + 1) = l.take i ++ [w] := by
  rw [List.take_add_one, h]; rfl
theorem logT_small {rows : List (List Nat)} {k : Nat} (hk : k ≤ 100000) (hn : rows.length ≤ 2001) (hw : ∀ w ∈ rows, okW w = true) : (logT k rows).length ≤ rows.length * 2022 :=
  logT_len (by omega) fun w h => okW_len (hw w h)
theorem wI_len : ∀ (k : Nat) (l : List (List Nat)), (wI k l).length = l.length
  | k, [] => rfl
  | k, a :: l => by rw [wI, List.length_cons, wI_len (k + 1) l, List.length_cons]
theorem recP_nil : recP 0 (pcs []) = ([], .whole) := rfl
theorem pcs_len : ∀ (k : Nat) (rows : List (List Nat)) (tail : List Nat), (∀ w ∈ rows, okW w = true) → 10 ∉ tail → (pcs (logT k rows ++ tail)).length = rows.length + 1
  | k, [], tail, _, ht => by rw [logT, List.nil_append, pcs_last ht]; rfl
  | k, w :: rows, tail, hw, ht => by
    have h1 : okW w = true := hw w (by simp)
    rw [logT, List.append_assoc, List.cons_append, pcs_line (logL_nl h1), List.length_cons, pcs_len (k + 1) rows tail (fun v hv => hw v (List.mem_cons_of_mem _ hv)) ht, List.length_cons]
theorem gt_doW (l : Fl) (f : Str) (y : List Nat) : gt (doIt l (.w f y)) f = gt l f ++ y := by
  show gt (pt l f _) f = _
  rw [gt_put, if_pos rfl]
theorem gt_doWN (l : Fl) {f g : Str} (y : List Nat) (h : ¬ f = g) : gt (doIt l (.w f y)) g = gt l g := by
  show gt (pt l f _) g = _
  rw [gt_put, if_neg (fun e => h e.symm)]
theorem gt_doT (l : Fl) (f : Str) (n : Nat) : gt (doIt l (.t f n)) f = (gt l f).take n := by
  show gt (pt l f _) f = _
  rw [gt_put, if_pos rfl]
theorem gt_doTN (l : Fl) {f g : Str} (n : Nat) (h : ¬ f = g) : gt (doIt l (.t f n)) g = gt l g := by
  show gt (pt l f _) g = _
  rw [gt_put, if_neg (fun e => h e.symm)]
def new : List Nat := [110, 101, 119]
theorem new_ok : okW new = true := by decide
theorem new_S : (Str.ofString "new") = S new := by decide +kernel
theorem rec_new {rows : List (List Nat)} (hok : ∀ r ∈ rows, okW r = true) (hn : rows.length ≤ 100) : recP 0 (pcs (logT 0 rows ++ lnT rows.length new)) = (rows ++ [new], .whole) ∧ (pcs (logT 0 rows ++ lnT rows.length new)).length = rows.length + 2 ∧ logT 0 rows ++ lnT rows.length new = logT 0 (rows ++ [new]) ∧ (logT 0 rows ++ lnT rows.length new).length ≤ (rows.length + 1) * 2022 := by
  have e : logT 0 rows ++ lnT rows.length new = logT 0 (rows ++ [new]) := by rw [logT_snoc, Nat.zero_add]
  have h2 : ∀ r ∈ rows ++ [new], okW r = true := fun r h => by
    rcases List.mem_append.mp h with h | h
    · exact hok r h
    · rw [List.mem_singleton.mp h]; exact new_ok
  refine ⟨?_, ?_, e, ?_⟩
  · have := recP_logT 0 (rows ++ [new]) [] h2 (by simp)
    rw [List.append_nil, ← e] at this
    exact this
  · have := pcs_len 0 (rows ++ [new]) [] h2 (by simp)
    rw [List.append_nil, ← e, List.length_append] at this
    exact this
  · rw [e]
    have := logT_small (rows := rows ++ [new]) (k := 0) (by omega) (by rw [List.length_append]; show _ + 1 ≤ _; omega) h2
    rw [List.length_append] at this
    exact this
end Lg

section
open PySem PySem.Spec PyProof.Rows L2 Rl Eg SX
/-! my own short words for a walk -/
-- two addresses differ
local macro_rules | `(tactic| o_reads) => `(tactic| (first
  | assumption | (refine Ne.symm ?_; assumption) | exact ne_of_none (by o_shape) (by assumption) | exact Ne.symm (ne_of_none (by o_shape) (by assumption)) | exact ne_of (by o_shape) (by o_shape) (by intro z; cases z)))
-- what stands at an address
local macro_rules | `(tactic| o_shape) => `(tactic| (first
  | with_reducible assumption
  | with_reducible exact upd_same
  | ((with_reducible refine Eq.trans (upd_ne ?h1) ?h2); (case h1 => o_reads); (case h2 => o_shape))
  | ((with_reducible refine same_at (by assumption) ?_); o_shape)
  | ((with_reducible refine off_at (by assumption) ?h1 ?h2); (case h1 => o_reads); (case h2 => o_shape))
  | ((with_reducible refine offs_at (by assumption) ?h1 ?h2); (case h1 => w_left); (case h2 => o_shape))))
-- not in a list of places
local macro_rules | `(tactic| w_left) => `(tactic| (repeat (first | with_reducible exact nn_nil | ((with_reducible refine nn_cons ?h1 ?_); (case h1 => o_reads)))))
-- a field among fields
local macro_rules | `(tactic| w_fin) => `(tactic| (first | with_reducible exact fld_hd | with_reducible exact pf_nil | with_reducible exact pf_hd | ((with_reducible refine' fld_tl ?h1 ?h2); (case h1 => decide +kernel); (case h2 => w_fin)) | ((with_reducible refine' pf_tl ?h1 ?h2); (case h1 => decide +kernel); (case h2 => w_fin))))
-- a list, a tuple that stands
local macro_rules | `(tactic| o_fieldsN) => `(tactic| (first | with_reducible assumption | exact SqL.of (by o_shape) | exact SqT.of (by o_shape) | ((with_reducible refine Same.seq (‹Same _ _› : Same _ _) ?_); o_fieldsN) | ((with_reducible refine Same.tup (‹Same _ _› : Same _ _) ?_); o_fieldsN)))
-- sizes and arithmetic
local macro_rules | `(tactic| pre_facts) => `(tactic| (first | omega | ((with_reducible show (0 : Int) < _); decide) | decide | ((with_reducible show (0 : Int) < _); decide +kernel) | (rw [sizeLine_eq]; omega) | ((simp only [S_cat, S_len, List.length_append, List.length_cons, List.length_nil, List.length_map, sizeLine_eq]); omega)))
-- one step
local macro_rules | `(tactic| pv_eval) => `(tactic| (first
  | ((with_reducible refine' i_var ?h0 ?_); (case h0 => rfl))
  | with_reducible refine i_c ?_
  | with_reducible refine i_cons ?_
  | with_reducible refine i_nil ?_
  | with_reducible refine i_op ?_
  | with_reducible refine i_cb ?_
  | with_reducible refine j_asg ?_
  | ((with_reducible refine' i_name ?h0 ?_); (case h0 => rfl))
  | with_reducible refine i_seqN (fun _ _ => ?_)
  | with_reducible refine i_test ?_
  | with_reducible refine g_b ?_
  | with_reducible refine i_un ?_
  | with_reducible refine i_call ?_
  | with_reducible refine i_meth ?_
  | with_reducible refine i_callS ?_
  | with_reducible refine i_methS ?_
  | with_reducible refine i_fld ?_
  | with_reducible refine i_mk ?_
  | with_reducible refine i_if ?_
  | with_reducible refine i_sl ?_
  | with_reducible refine i_nopart ?_
  | with_reducible refine i_part ?_
  | with_reducible refine g_part ?_
  | with_reducible refine i_tB ?_
  | with_reducible refine i_tru ?_
  | with_reducible refine g_truB ?_
  | with_reducible refine i_and ?_
  | with_reducible refine i_or ?_
  | with_reducible refine i_not ?_
  | with_reducible refine i_andV ?_
  | with_reducible refine i_orV ?_
  | with_reducible refine i_notV ?_
  | with_reducible refine g_andV ?_
  | with_reducible refine g_orV ?_
  | with_reducible refine g_notV ?_
  | with_reducible refine j_next ?_
  | with_reducible refine j_drop ?_
  | with_reducible refine j_ret ?_
  | with_reducible refine j_retN ?_
  | with_reducible refine i_ifS ?_
  | ((with_reducible refine' j_aug ?h0 ?_); (case h0 => rfl))
  | with_reducible refine g_ipI ?_
  | with_reducible refine j_augS ?_
  | with_reducible refine i_sub ?_
  | with_reducible refine i_for ?_
  | with_reducible refine i_lc ?_
  | with_reducible refine i_iL ?_
  | with_reducible refine i_iT ?_
  | with_reducible refine i_rng0 ?_
  | ((with_reducible refine' g_rng0 ?h0 ?h1 ?_); (case h0 => o_shape); (case h1 => (refine ⟨?_, ?_, ?_, ?_⟩ <;> (pre_facts; done))))
  | with_reducible refine i_revR ?_
  | ((with_reducible refine' g_revR ?h0 ?_); (case h0 => (pre_facts; done)))
  | with_reducible refine g_uRng (fun _ _ _ _ _ => ?_)
  | with_reducible refine i_r1 ?_
  | with_reducible refine i_r2 ?_
  | with_reducible refine i_en ?_
  | with_reducible refine i_eS ?_
  | with_reducible refine i_keys ?_
  | ((with_reducible refine' g_keys ?h0 ?_); (case h0 => o_shape))
  | with_reducible refine i_iS ?_
  | with_reducible refine g_eS ?_
  | with_reducible refine g_iS ?_
  | with_reducible refine i_bm ?_
  | with_reducible refine i_bm0 ?_
  | with_reducible refine g_bmS ?_
  | with_reducible refine i_dget2 ?_
  | with_reducible refine i_dget ?_
  | with_reducible refine i_dput ?_
  | with_reducible refine i_sfld ?_
  | with_reducible refine i_gcons ?_
  | with_reducible refine i_gnil ?_
  | with_reducible refine i_par ?_
  | with_reducible refine i_chain ?_
  | with_reducible refine i_tupN ?_
  | with_reducible refine i_lstN ?_
  | with_reducible refine iteT ?_
  | with_reducible refine iteF ?_
  | with_reducible refine i_ve ?_
  | with_reducible refine i_ost ?_
  | with_reducible refine i_raise ?_
  | with_reducible refine j_makeS ?_
  | with_reducible refine i_xf ?_
  | with_reducible refine iteNT ?_
  | with_reducible refine iteNF ?_
  | with_reducible refine g_I0 ?_
  | ((with_reducible refine' g_pow ?h0 ?_); (case h0 => exact ⟨by decide, by decide, by decide⟩))
  | ((with_reducible refine' g_I ?h0 ?_); (case h0 => (pre_facts; done)))
  | with_reducible refine g_neg ?_
  | with_reducible refine g_addI ?_
  | ((with_reducible refine' g_addS ?h0 ?_); (case h0 => (pre_facts; done)))
  | ((with_reducible refine' g_mul ?h0 ?_); (case h0 => first | exact .inl (.inl ⟨by decide, by decide⟩) | exact .inl (.inr ⟨by decide, by decide⟩) | exact .inr (by show _ + _ < _; decide +kernel) | (refine .inl (.inl ⟨?_, ?_⟩) <;> (pre_facts; done)) | (refine .inl (.inr ⟨?_, ?_⟩) <;> (pre_facts; done))))
  | ((with_reducible refine' g_div ?h0 ?_); (case h0 => (refine .inl ⟨?_, ?_⟩ <;> (pre_facts; done))))
  | with_reducible refine g_eqI ?_
  | with_reducible refine g_neI ?_
  | with_reducible refine g_eqS ?_
  | with_reducible refine g_neS ?_
  | with_reducible refine g_uInt ?_
  | with_reducible refine g_ord ?_
  | ((with_reducible refine' g_str ?h0 ?_); (case h0 => (pre_facts; done)))
  | with_reducible refine g_abs ?_
  | with_reducible refine g_max2 ?_
  | with_reducible refine g_min2 ?_
  | with_reducible refine g_count ?_
  | with_reducible refine g_isNN ?_
  | with_reducible refine g_noNN ?_
  | ((with_reducible refine' g_isNx ?h0 ?_); (case h0 => exact fun z => nomatch z))
  | ((with_reducible refine' g_noNx ?h0 ?_); (case h0 => exact fun z => nomatch z))
  | ((with_reducible refine' g_isi ?h0 ?h1 ?_); (case h0 => first | with_reducible exact .base (.int _) | with_reducible exact .base (.str _) | with_reducible exact .base (.bl _) | with_reducible exact .base .non | exact .base (.lst (by o_shape)) | exact .base (.tup (by o_shape))); (case h1 => first | with_reducible exact kb_bb | with_reducible exact kb_ii | with_reducible exact kb_ss | with_reducible exact kb_ll | with_reducible exact kb_tt | ((with_reducible refine kb_non _ ?_); decide) | ((with_reducible refine kb_bool _ ?_); decide) | ((with_reducible refine kb_int _ ?_); decide) | ((with_reducible refine kb_str _ ?_); decide) | ((with_reducible refine kb_list _ ?_); decide) | ((with_reducible refine kb_tuple _ ?_); decide)))
  | ((with_reducible refine' g_newT ?h0 (fun _ _ _ _ _ => ?_)); (case h0 => (pre_facts; done)))
  | ((with_reducible refine' g_newL ?h0 (fun _ _ _ _ _ => ?_)); (case h0 => (pre_facts; done)))
  | with_reducible refine i_dnew (fun _ _ _ _ _ => ?_)
  | ((with_reducible refine' g_fld ?h0 ?h1 ?h2 ?h3 ?_); (case h0 => o_shape); (case h1 => assumption); (case h2 => assumption); (case h3 => w_fin))
  | ((with_reducible refine' g_sfld ?h0 ?h1 ?h2 ?h3 ?h4 ?_); (case h0 => o_shape); (case h1 => assumption); (case h2 => assumption); (case h3 => (pre_facts; done)); (case h4 => w_fin))
  | ((with_reducible refine' g_meth ?h0 ?h1 ?_); (case h0 => o_shape); (case h1 => rfl))
  | ((with_reducible refine' g_methS ?h0 ?h1 ?_); (case h0 => o_shape); (case h1 => rfl))
  | ((with_reducible refine' g_dget2 ?h0 ?_); (case h0 => exact Rd.of (by o_shape)))
  | ((with_reducible refine' g_dg ?h0 ?_); (case h0 => exact Rd.of (by o_shape)))
  | ((with_reducible refine' g_dput ?h0 ?h1 ?_); (case h0 => o_shape); (case h1 => (pre_facts; done)))
  | ((with_reducible refine' g_ixL ?h0 ?h1 ?_); (case h0 => o_fieldsN); (case h1 => rfl))
  | ((with_reducible refine' g_ixLg ?h0 ?h1 ?_); (case h0 => o_fieldsN); (case h1 => rfl))
  | ((with_reducible refine' g_ixT ?h0 ?h1 ?_); (case h0 => o_fieldsN); (case h1 => rfl))
  | ((with_reducible refine' g_setL ?h0 ?h1 ?h2 ?_); (case h0 => o_shape); (case h1 => rfl); (case h2 => rfl))
  | ((with_reducible refine' g_lenL ?h0 ?_); (case h0 => o_fieldsN))
  | ((with_reducible refine' g_lenT ?h0 ?_); (case h0 => o_fieldsN))
  | ((with_reducible refine' g_lenS ?h0 ?_); (case h0 => (pre_facts; done)))
  | ((with_reducible refine' g_iL ?h0 ?_); (case h0 => o_fieldsN))
  | ((with_reducible refine' g_en ?h0 ?_); (case h0 => o_fieldsN))
  | ((with_reducible refine' g_r1 ?h0 ?_); (case h0 => (refine ⟨?_, ?_⟩ <;> (pre_facts; done))))
  | ((with_reducible refine' g_r2 ?h0 ?_); (case h0 => (refine ⟨?_, ?_, ?_, ?_⟩ <;> (pre_facts; done))))
  | ((with_reducible refine' g_bmL ?h0 ?_); (case h0 => o_fieldsN))
  | ((with_reducible refine' g_app ?h0 ?h1 ?_); (case h0 => o_shape); (case h1 => (pre_facts; done)))
  | ((with_reducible refine' g_sum ?h0 ?_); (case h0 => o_fieldsN))
  | ((with_reducible refine' g_list ?h0 (fun _ _ _ _ _ => ?_)); (case h0 => o_fieldsN))
  | ((with_reducible refine' g_slS ?h0 ?_); (case h0 => (pre_facts; done)))
  | ((with_reducible refine' g_slL' ?h0 (fun _ _ _ _ _ => ?_)); (case h0 => o_fieldsN))
  | ((with_reducible refine' i_gtup ?h0 ?h1 ?_); (case h0 => o_fieldsN); (case h1 => rfl))
  | ((with_reducible refine' i_unl ?h0 ?h1 ?_); (case h0 => o_fieldsN); (case h1 => rfl))
  | ((with_reducible refine' t_nx ?h0 ?_); (case h0 => assumption))))
local macro_rules | `(tactic| o_readsAll) => `(tactic| (repeat pv_eval))

namespace L04
section
variable {P : Program} {w : World} {K : PySem.W.Frag} {mg : Str → Option Value} {base : Heap} {Z : Ad}
def Stk (H : Hp) (a : Addr) : Prop := ∃ s0 s1 s2, H a = some (.lst [.int s0, .int s1, .int s2])
def sp_draw : Sp := fun vs H Q _ => ∃ a m, vs = [.ref a, .int m] ∧ 0 < m ∧ m < 2 ^ 200 ∧ Stk H a ∧ ∀ r H', 0 ≤ r → r < m → Stk H' a → Off a H H' → Q (.int r) H'
theorem d_law_draw (T : Txt K w mg Z) : Dfn P w K mg base 1 "_law_draw" ["stock", "many"] (sp_draw) := by
  obtain ⟨f, fd, F, hm, hb⟩ := T.f_law_draw
  refine ⟨f, fd, F.ok sc_law_draw (fun vs H Q E h => by first | (obtain ⟨rfl, _⟩ := h; rfl) | (obtain ⟨_, rfl, _⟩ := h; rfl) | (obtain ⟨_, _, rfl, _⟩ := h; rfl) | (obtain ⟨_, _, _, rfl, _⟩ := h; rfl) | (obtain ⟨_, _, _, _, rfl, _⟩ := h; rfl) | (obtain ⟨_, _, _, _, _, rfl, _⟩ := h; rfl) | (obtain ⟨_, _, _, _, _, _, rfl, _⟩ := h; rfl) | (obtain ⟨_, _, _, _, _, _, _, rfl, _⟩ := h; rfl) | (obtain ⟨_, _, _, _, _, _, _, _, rfl, _⟩ := h; rfl) | (obtain ⟨_, _, _, _, _, _, _, _, _, rfl, _⟩ := h; rfl) | (obtain ⟨_, _, _, _, _, _, _, _, _, _, rfl, _⟩ := h; rfl) | (obtain ⟨_, _, _, _, _, _, _, _, _, _, _, rfl, _⟩ := h; rfl) | (obtain ⟨_, _, _, _, _, _, _, _, _, _, _, _, rfl, _⟩ := h; rfl) | (obtain ⟨_, _, _, _, _, _, _, _, _, _, _, _, _, rfl, _⟩ := h; rfl) | (obtain ⟨_, _, _, _, _, _, _, _, _, _, _, _, _, _, rfl, _⟩ := h; rfl) | (obtain ⟨_, _, _, _, _, _, _, _, _, _, _, _, _, _, _, rfl, _⟩ := h; rfl) | (obtain ⟨_, _, _, _, _, _, _, _, _, _, _, _, _, _, _, _, rfl, _⟩ := h; rfl)) (fun cdv A outer s H vs Q E hr h => ?_), hm, F.kp, hb⟩
  obtain ⟨a, m, rfl, h0, h1, ⟨s0, s1, s2, hH⟩, k⟩ := h
  refine ⟨_, (pss_cons (ps_if (pt_cmpR op_gt (pe_ix ix_seq (pv 0) pe_int (fun _ _ => rfl)) pe_int (nomark _)) (pss_cons (ps_set (i := 2) sc_law_draw.nd rfl (.inl rfl) (pe_op op_mod (pe_callTy call_uInt (by rfl) T.b_int bt_int (pa_cons (pe_ix ix_seq (pv 0) pe_int (fun _ _ => rfl)) pa_nil)) (pv 1)))
      (pss_cons (ps_asg (pe_op op_uDiv (pe_ix ix_seq (pv 0) pe_int (fun _ _ => rfl)) (pv 1)) (pg_sub (pv 0) pe_int set_list))
      (pss_one (ps_ret (pv 2))))) pss_nil)
      (pss_cons (ps_augS (pv 0) pe_int get_list pe_int ip_add set_list)
      (pss_cons (ps_asg (pe_op op_mod (pe_callTy call_uInt (by rfl) T.b_int bt_int (pa_cons (pe_op op_uAdd (pe_op op_uMul (pe_ix ix_seq (pv 0) pe_int (fun _ _ => rfl)) pe_int) (pe_op op_uMul (pe_ix ix_seq (pv 0) pe_int (fun _ _ => rfl)) pe_int)) pa_nil)) pe_int) (pg_sub (pv 0) pe_int set_list))
      (pss_one (ps_ret (pe_op op_mod (pe_op op_uDiv (pe_op op_mod (pe_callTy call_uInt (by rfl) T.b_int bt_int (pa_cons (pe_op op_uAdd (pe_op op_uMul (pe_ix ix_seq (pv 0) pe_int (fun _ _ => rfl)) pe_int) (pe_op op_uMul (pe_ix ix_seq (pv 0) pe_int (fun _ _ => rfl)) pe_int)) pa_nil)) pe_int) pe_int) (pv 1))))))), ?_⟩
  try dsimp only [cxOf, Cx.nox, Cx.wish]
  show (_ : TS) _ [some _, some _, none] _
  o_readsAll
  have hmb : m.natAbs < 2 ^ 200 := by omega
  refine br (fun hs => ?_) (fun hs => ?_)
  · o_readsAll
    refine g_divW h0 hmb (by decide) ?_
    o_readsAll
    exact k _ _ (Int.emod_nonneg _ (by omega)) (Int.emod_lt_of_pos _ h0) ⟨_, _, _, upd_same⟩ (off_refl _ _).upd
  · o_readsAll
    exact k _ _ (Int.emod_nonneg _ (by omega)) (Int.emod_lt_of_pos _ h0) ⟨_, _, _, upd_same⟩ (off_refl _ _).upd.upd
def sp_stock (K : PySem.W.Frag) : Sp := fun vs H Q _ => ∃ (a : Addr) (ns : List Int) (at_ : Nat), vs = [.ref a, .int at_] ∧ SqL K H a (ns.map V.int) ∧ ns.length ≤ 63 ∧ at_ < 1000000 ∧ ∀ p H', H p = none → Same H H' → Stk H' p → Q (.ref p) H'
theorem cut5 (ns : List Int) (lo hi : Option Int) : ∃ ms : List Int, cutV (ns.map V.int) lo hi = ms.map V.int ∧ ms.length ≤ ns.length := by
  unfold cutV
  rw [← List.map_drop, ← List.map_take]
  refine ⟨_, rfl, ?_⟩
  rw [List.length_take, List.length_drop]
  omega
theorem d_law_stock (T : Txt K w mg Z) : Dfn P w K mg base 1 "_law_stock" ["script", "at"] (sp_stock K) := by
  obtain ⟨f, fd, F, hm, hb⟩ := T.f_law_stock
  refine ⟨f, fd, F.ok sc_law_stock (fun vs H Q E h => by first | (obtain ⟨rfl, _⟩ := h; rfl) | (obtain ⟨_, rfl, _⟩ := h; rfl) | (obtain ⟨_, _, rfl, _⟩ := h; rfl) | (obtain ⟨_, _, _, rfl, _⟩ := h; rfl) | (obtain ⟨_, _, _, _, rfl, _⟩ := h; rfl) | (obtain ⟨_, _, _, _, _, rfl, _⟩ := h; rfl) | (obtain ⟨_, _, _, _, _, _, rfl, _⟩ := h; rfl) | (obtain ⟨_, _, _, _, _, _, _, rfl, _⟩ := h; rfl) | (obtain ⟨_, _, _, _, _, _, _, _, rfl, _⟩ := h; rfl) | (obtain ⟨_, _, _, _, _, _, _, _, _, rfl, _⟩ := h; rfl) | (obtain ⟨_, _, _, _, _, _, _, _, _, _, rfl, _⟩ := h; rfl) | (obtain ⟨_, _, _, _, _, _, _, _, _, _, _, rfl, _⟩ := h; rfl) | (obtain ⟨_, _, _, _, _, _, _, _, _, _, _, _, rfl, _⟩ := h; rfl) | (obtain ⟨_, _, _, _, _, _, _, _, _, _, _, _, _, rfl, _⟩ := h; rfl) | (obtain ⟨_, _, _, _, _, _, _, _, _, _, _, _, _, _, rfl, _⟩ := h; rfl) | (obtain ⟨_, _, _, _, _, _, _, _, _, _, _, _, _, _, _, rfl, _⟩ := h; rfl) | (obtain ⟨_, _, _, _, _, _, _, _, _, _, _, _, _, _, _, _, rfl, _⟩ := h; rfl)) (fun cdv A outer s H vs Q E hr h => ?_), hm, F.kp, hb⟩
  obtain ⟨a, ns, at_, rfl, hS, hn, ha, k⟩ := h
  refine ⟨_, (pss_cons (ps_set (i := 2) sc_law_stock.nd rfl (.inl rfl) (pe_ifExp (pt_cmpR op_lt (pv 1) (pe_callB call_uLen (by rfl) T.b_len bt_len (pa_cons (pv 0) pa_nil)) (nomark _)) (pe_callTy call_uInt (by rfl) T.b_int bt_int (pa_cons (pe_ix ix_seq (pv 0) (pv 1) (fun _ _ => rfl)) pa_nil)) (pe_op op_uAdd (pe_op op_uMul pe_int (pe_callB (cr_sum rfl) (by rfl) T.b_sum bt_sum (pa_cons (pe_lc (own := [("one", 5)]) (by rfl) sc_law_stock.nd (pi_list (pe_slice sl_u (pv 0) po_none (po_some pe_int))) (blkOk_by (N := n_law_stock) (sc := defScope st_law_stock) (by decide +kernel)) (fun _ _ _ _ _ => (pg_name (i := 5) sc_law_stock.nd rfl (.inl rfl))) (fun _ _ _ _ _ => pts_nil) (fun _ _ _ _ _ => (pe_op op_mod (pe_callTy call_uInt (by rfl) T.b_int bt_int (pa_cons (pv 5) pa_nil)) pe_int))) pa_nil))) pe_int)))
      (pss_cons (ps_set (i := 3) sc_law_stock.nd rfl (.inl rfl) (pe_op op_mod (pe_callB call_uAbs (by rfl) T.b_abs bt_abs (pa_cons (pv 2) pa_nil)) (pe_op op_uMul (pe_op op_pow pe_int pe_int) (pe_op op_pow pe_int pe_int))))
      (pss_cons (ps_set (i := 4) sc_law_stock.nd rfl (.inl rfl) (pe_op op_mod (pe_callTy call_uInt (by rfl) T.b_int bt_int (pa_cons (pe_op op_uAdd (pe_op op_uAdd (pe_op op_uAdd (pe_op op_uMul pe_int (pv 3)) (pe_ifExp (pt_cmpR op_lt (pv 2) pe_int (nomark _)) pe_int pe_int)) (pe_op op_uMul (pv 1) pe_int)) pe_int) pa_nil)) pe_int))
      (pss_one (ps_ret (pe_lst (pa_cons (pe_ifExp (pt_cmpR op_ge (pv 3) (pe_op op_pow pe_int pe_int) (nomark _)) (pv 3) pe_int) (pa_cons (pe_op op_mod (pe_callTy call_uInt (by rfl) T.b_int bt_int (pa_cons (pe_op op_uMul (pe_op op_uAdd (pv 4) pe_int) (pe_op op_uAdd (pv 4) pe_int)) pa_nil)) pe_int) (pa_cons (pv 1) pa_nil))))))))), ?_⟩
  try dsimp only [cxOf, Cx.nox, Cx.wish]
  show (_ : TS) _ [some _, some _, none, none, none, none] _
  o_readsAll
  refine jnE (fun x H1 => ∃ c : Int, x = .int c ∧ Same H H1) ?_ (fun Q' hQ => br (fun hc => ?_) (fun hc => ?_))
  · rintro x H1 ⟨c, rfl, e1⟩
    o_readsAll
    refine jnE (fun x H1 => ∃ c : Int, x = .int c ∧ Same H H1) ?_ (fun Q' hQ => br (fun hc => ?_) (fun hc => ?_))
    · rintro x H2 ⟨c2, rfl, e2⟩
      o_readsAll
      refine jnE (fun x H1 => ∃ c : Int, x = .int c ∧ Same H H1) ?_ (fun Q' hQ => br (fun hc => ?_) (fun hc => ?_))
      · rintro x H3 ⟨c3, rfl, e3⟩
        o_readsAll
        exact k _ _ (e3.free (by assumption)) (e3.trans (by assumption)) ⟨_, _, _, by assumption⟩
      · o_readsAll
        exact hQ _ _ ⟨_, rfl, e2⟩
      · o_readsAll
        exact hQ _ _ ⟨_, rfl, e2⟩
    · o_readsAll
      exact hQ _ _ ⟨_, rfl, e1⟩
    · o_readsAll
      exact hQ _ _ ⟨_, rfl, e1⟩
  · rw [List.length_map] at hc
    o_readsAll
    refine g_ixL hS (v := .int (ns[at_]'(by omega))) (atI_nat (j := at_) (by rw [List.getElem?_map, List.getElem?_eq_getElem (by omega)]; rfl)) ?_
    o_readsAll
    exact hQ _ _ ⟨_, rfl, Same.refl _⟩
  · o_readsAll
    obtain ⟨ms, em, lm⟩ := cut5 ns none (some 5)
    rename_i p H1 hp e1 h1
    rw [em] at h1
    refine l_lstP (fun i => .int ((ms.getD i 0) % 1000003)) (.of h1) (fun x => rfl) (fun D i x H' hx hD e hl => ?_) fun q H2 hq e2 h2 => ?_
    · rw [List.getElem?_map] at hx
      obtain ⟨m, hm, rfl⟩ := Option.map_eq_some_iff.mp hx
      have hi := (List.getElem?_eq_some_iff.mp hm).1
      o_readsAll
      exact g_itemP e hl hD (by rw [sizeLine_eq]; omega) (by rw [List.getD_eq_getElem?_getD, hm]; rfl)
    · rw [show (List.range (ms.map V.int).length).map (fun i => V.int ((ms.getD i 0) % 1000003)) = ((List.range ms.length).map fun i => (ms.getD i 0) % 1000003).map V.int by rw [List.map_map, List.length_map]; rfl] at h2
      o_readsAll
      exact hQ _ _ ⟨_, rfl, e1.trans e2⟩
end
end L04

namespace L04
open SX Sp Lg TL
section
variable {P : Program} {w : World} {K : PySem.W.Frag} {mg : Str → Option Value} {base : Heap} {Z : Ad}
theorem d_TooMany_init (T : Txt K w mg Z) : Iex P w K mg base 1 "TooMany" Z.a_TooMany ["self", "what"] (sp_xi K Z.a_TooMany "what") := by
  obtain ⟨f, fd, F, hi, ht, hb⟩ := T.f_TooMany_init
  refine ⟨⟨f, fd, F.ok sc_TooMany_init (fun vs H Q E h => by first | (obtain ⟨rfl, _⟩ := h; rfl) | (obtain ⟨_, rfl, _⟩ := h; rfl) | (obtain ⟨_, _, rfl, _⟩ := h; rfl) | (obtain ⟨_, _, _, rfl, _⟩ := h; rfl) | (obtain ⟨_, _, _, _, rfl, _⟩ := h; rfl) | (obtain ⟨_, _, _, _, _, rfl, _⟩ := h; rfl) | (obtain ⟨_, _, _, _, _, _, rfl, _⟩ := h; rfl) | (obtain ⟨_, _, _, _, _, _, _, rfl, _⟩ := h; rfl) | (obtain ⟨_, _, _, _, _, _, _, _, rfl, _⟩ := h; rfl) | (obtain ⟨_, _, _, _, _, _, _, _, _, rfl, _⟩ := h; rfl) | (obtain ⟨_, _, _, _, _, _, _, _, _, _, rfl, _⟩ := h; rfl) | (obtain ⟨_, _, _, _, _, _, _, _, _, _, _, rfl, _⟩ := h; rfl) | (obtain ⟨_, _, _, _, _, _, _, _, _, _, _, _, rfl, _⟩ := h; rfl) | (obtain ⟨_, _, _, _, _, _, _, _, _, _, _, _, _, rfl, _⟩ := h; rfl) | (obtain ⟨_, _, _, _, _, _, _, _, _, _, _, _, _, _, rfl, _⟩ := h; rfl) | (obtain ⟨_, _, _, _, _, _, _, _, _, _, _, _, _, _, _, rfl, _⟩ := h; rfl) | (obtain ⟨_, _, _, _, _, _, _, _, _, _, _, _, _, _, _, _, rfl, _⟩ := h; rfl)) (fun cdv A outer s H vs Q E hr h => ?_), hi, ht, T.g_TooMany, hb⟩, T.o_TooMany⟩
  have oex := T.o_TooMany
  have nex := T.n_TooMany_what
  obtain ⟨a, v, rfl, ha, k⟩ := h
  refine ⟨_, (pss_cons (ps_expr (pe_winit (by rfl) T.g_WinsError T.wg_WinsError T.wr_WinsError T.wv_WinsError (pa_cons (pv 0) (pa_cons pe_str pa_nil))))
      (pss_one (ps_ost (pv 0) (pv 1) rfl))), ?_⟩
  try dsimp only [cxOf, Cx.nox, Cx.wish]
  show (_ : TS) _ [some _, some _] _
  o_readsAll
  refine g_ve ha oex (by simp) ?_
  o_readsAll
  refine g_ost ha oex nex fun dx hd hn => ?_
  o_readsAll
  exact k dx hd hn
def sp_bound (K : PySem.W.Frag) (w : World) (Z : Ad) : Sp := fun vs H Q E => ∃ (what : Str) (n lim : Int), vs = [.str what, .int n] ∧ KDct K w Z.a_LIMITS what (.int lim) ∧ (n ≤ lim → ∀ H', Same H H' → Q .non H') ∧ (lim < n → KMiss K w Z.a_TOLD what ∧ ∀ d H', H d = none → Same H H' → H' d = some (.xd [("what", .str what)]) → E (.ref Z.a_TooMany) (some d) H')
theorem d_bound (T : Txt K w mg Z) : DfnX P w K mg base 3 "bound" ["what", "number"] (sp_bound K w Z) := by
  obtain ⟨f, fd, F, hm, hb⟩ := T.f_bound
  refine ⟨f, fd, F.okX sc_bound (fun vs H Q E h => by first | (obtain ⟨rfl, _⟩ := h; rfl) | (obtain ⟨_, rfl, _⟩ := h; rfl) | (obtain ⟨_, _, rfl, _⟩ := h; rfl) | (obtain ⟨_, _, _, rfl, _⟩ := h; rfl) | (obtain ⟨_, _, _, _, rfl, _⟩ := h; rfl) | (obtain ⟨_, _, _, _, _, rfl, _⟩ := h; rfl) | (obtain ⟨_, _, _, _, _, _, rfl, _⟩ := h; rfl) | (obtain ⟨_, _, _, _, _, _, _, rfl, _⟩ := h; rfl) | (obtain ⟨_, _, _, _, _, _, _, _, rfl, _⟩ := h; rfl) | (obtain ⟨_, _, _, _, _, _, _, _, _, rfl, _⟩ := h; rfl) | (obtain ⟨_, _, _, _, _, _, _, _, _, _, rfl, _⟩ := h; rfl) | (obtain ⟨_, _, _, _, _, _, _, _, _, _, _, rfl, _⟩ := h; rfl) | (obtain ⟨_, _, _, _, _, _, _, _, _, _, _, _, rfl, _⟩ := h; rfl) | (obtain ⟨_, _, _, _, _, _, _, _, _, _, _, _, _, rfl, _⟩ := h; rfl) | (obtain ⟨_, _, _, _, _, _, _, _, _, _, _, _, _, _, rfl, _⟩ := h; rfl) | (obtain ⟨_, _, _, _, _, _, _, _, _, _, _, _, _, _, _, rfl, _⟩ := h; rfl) | (obtain ⟨_, _, _, _, _, _, _, _, _, _, _, _, _, _, _, _, rfl, _⟩ := h; rfl)) (fun cdv A outer s H vs Q E hr h => ?_), hm, F.kp, hb⟩
  obtain ⟨what, n, lim, rfl, hd, k1, k2⟩ := h
  have D_TooMany_init := d_TooMany_init (P := P) (base := base) T
  refine ⟨_, (pss_one (ps_if (pt_cmpR op_gt (pv 1) (pe_ix ix_kdict (pe_gr T.c_LIMITS) (pv 0) (fun _ _ => rfl)) (nomark _)) (pss_one (ps_rs (takes_of rfl rfl rfl rfl) (pmk_iex D_TooMany_init (hr.mono (by decide)) (by rfl) (pa_cons (pe_kget2 (pe_gr T.c_TOLD) (pv 0) (pv 0) ⟨rfl, rfl, rfl, rfl⟩) pa_nil)) rfl)) pss_nil)), ?_⟩
  try dsimp only [cxOf, Cx.nox, Cx.wish]
  show (_ : TS) _ [some _, some _] _
  o_readsAll
  refine g_kd hd ?_
  o_readsAll
  refine br (fun h => ?_) (fun h => ?_)
  · obtain ⟨hm, k2⟩ := k2 h
    o_readsAll
    refine i_kget ?_
    o_readsAll
    refine ⟨_, _, rfl, hm, ?_⟩
    o_readsAll
    refine ⟨rfl, ?_⟩
    o_readsAll
    refine c_raise fun d H1 hd1 e1 h1 => ?_
    exact k2 d H1 hd1 e1 h1
  · o_readsAll
    exact k1 (by omega) _ (Same.refl _)
theorem c_bound {what : Str} {n lim : Int} {H : Hp} {Q : VK} {E : XK} (hd : KDct K w Z.a_LIMITS what (.int lim)) (hl : n ≤ lim) (k : ∀ H', Same H H' → Q .non H') : sp_bound K w Z [.str what, .int n] H Q E := ⟨what, n, lim, rfl, hd, fun _ => k, fun h => absurd h (by omega)⟩
theorem c_boundX {what : Str} {n lim : Int} {H : Hp} {Q : VK} {E : XK} (hd : KDct K w Z.a_LIMITS what (.int lim)) (hl : lim < n) (hm : KMiss K w Z.a_TOLD what) (k : ∀ d H', H d = none → Same H H' → H' d = some (.xd [("what", .str what)]) → E (.ref Z.a_TooMany) (some d) H') : sp_bound K w Z [.str what, .int n] H Q E := ⟨what, n, lim, rfl, hd, fun h => absurd h (by omega), fun _ => ⟨hm, k⟩⟩
/-- a log line's text of a number and words -/
def sp_lline : Sp := fun vs H Q _ => ∃ (n : Nat) (cs : List Nat), vs = [.int n, .str (S cs)] ∧ n < 2 ^ 100 ∧ cs.length ≤ 2000 ∧ (∀ c ∈ cs, c ≤ 1114111) ∧ ∀ H', Same H H' → Q (.str (S (logL n cs))) H'
def sp_line (Z : Ad) : Sp := fun vs H Q E => ∃ (n : Nat) (cs : List Nat), vs = [.int n, .str (S cs)] ∧ n < 2 ^ 100 ∧ (∀ c ∈ cs, c ≤ 1114111) ∧ cs.length ≤ 10000000 ∧ (cs.length ≤ 2000 → ∀ H', Same H H' → Q (.str (S (logL n cs))) H') ∧ (2000 < cs.length → ∀ d H', H d = none → Same H H' → H' d = some (.xd [("what", .str "signs")]) → E (.ref Z.a_TooMany) (some d) H')
theorem logL_eq (n : Nat) (cs : List Nat) : S (numL n) ++ S [32] ++ S (numL cs.length) ++ S [32] ++ S (numL ((n + ps cs cs.length) % 9973)) ++ S [32] ++ S cs = S (logL n cs) := by
  simp only [S_cat, logL, chk, List.append_assoc, List.cons_append, List.nil_append]
theorem l31 {n : Nat} (h : n < 2 ^ 100) : (numL n).length ≤ 31 := numL_len (by decide) (Nat.lt_of_lt_of_le h (by decide))
theorem g_strW {m : Nat} {H : Hp} {Q : VK} (c : m < 2 ^ 100) (k : Q (.str (S (numL m))) H) : uStr [.int (m : Int)] H Q := ⟨(m : Int), rfl, Nat.lt_of_le_of_lt (log_nb (v := (m : Int)) (k := 100) (by simpa using c)) (by decide), by have e := num_S m; show Q (.str (Str.ofString (toString (m : Int)))) H; rw [e]; exact k⟩
theorem l7 {n : Nat} (h : n < 10000000) : (numL n).length ≤ 7 := numL_len (by decide) h
theorem d_log_line (T : Txt K w mg Z) : DfnX P w K mg base 4 "log_line" ["number", "words"] (sp_line Z) := by
  obtain ⟨f, fd, F, hm, hb⟩ := T.f_log_line
  refine ⟨f, fd, F.okX sc_log_line (fun vs H Q E h => by first | (obtain ⟨rfl, _⟩ := h; rfl) | (obtain ⟨_, rfl, _⟩ := h; rfl) | (obtain ⟨_, _, rfl, _⟩ := h; rfl) | (obtain ⟨_, _, _, rfl, _⟩ := h; rfl) | (obtain ⟨_, _, _, _, rfl, _⟩ := h; rfl) | (obtain ⟨_, _, _, _, _, rfl, _⟩ := h; rfl) | (obtain ⟨_, _, _, _, _, _, rfl, _⟩ := h; rfl) | (obtain ⟨_, _, _, _, _, _, _, rfl, _⟩ := h; rfl) | (obtain ⟨_, _, _, _, _, _, _, _, rfl, _⟩ := h; rfl) | (obtain ⟨_, _, _, _, _, _, _, _, _, rfl, _⟩ := h; rfl) | (obtain ⟨_, _, _, _, _, _, _, _, _, _, rfl, _⟩ := h; rfl) | (obtain ⟨_, _, _, _, _, _, _, _, _, _, _, rfl, _⟩ := h; rfl) | (obtain ⟨_, _, _, _, _, _, _, _, _, _, _, _, rfl, _⟩ := h; rfl) | (obtain ⟨_, _, _, _, _, _, _, _, _, _, _, _, _, rfl, _⟩ := h; rfl) | (obtain ⟨_, _, _, _, _, _, _, _, _, _, _, _, _, _, rfl, _⟩ := h; rfl) | (obtain ⟨_, _, _, _, _, _, _, _, _, _, _, _, _, _, _, rfl, _⟩ := h; rfl) | (obtain ⟨_, _, _, _, _, _, _, _, _, _, _, _, _, _, _, _, rfl, _⟩ := h; rfl)) (fun cdv A outer s H vs Q E hr h => ?_), hm, F.kp, hb⟩
  obtain ⟨n, cs, rfl, hn, hc, hl2, k, kx⟩ := h
  have D_bound := d_bound (P := P) (base := base) T
  refine ⟨_, (pss_cons (ps_expr (pe_dfnS D_bound (hr.mono (by decide)) (by rfl) (takes_of rfl rfl rfl rfl) (pa_cons pe_str (pa_cons (pe_callB call_uLen (by rfl) T.b_len bt_len (pa_cons (pv 1) pa_nil)) pa_nil))))
      (pss_cons (ps_set (i := 2) sc_log_line.nd rfl (.inl rfl) (pv 0))
      (pss_cons (ps_for (passes_of rfl) rfl (pi_enumS (by rfl) T.b_enumerate (pa_cons (pv 1) pa_nil)) (pg_tup (by rfl) (pgs_cons (pg_name (i := 3) sc_log_line.nd rfl (.inl rfl)) (pgs_cons (pg_name (i := 4) sc_log_line.nd rfl (.inl rfl)) pgs_nil)))
        (pss_one (ps_aug (i := 2) sc_log_line.nd rfl (.inl rfl) (pe_op op_uMul (pe_op op_uAdd (pv 3) pe_int) (pe_callB call_uOrd (by rfl) T.b_ord bt_ord (pa_cons (pv 4) pa_nil))) ip_add)))
      (pss_one (ps_ret (pe_op op_uAdd (pe_op op_uAdd (pe_op op_uAdd (pe_op op_uAdd (pe_op op_uAdd (pe_op op_uAdd (pe_callTy call_uStr (by rfl) T.b_str bt_str (pa_cons (pv 0) pa_nil)) (pe_s [32] (by decide +kernel))) (pe_callTy call_uStr (by rfl) T.b_str bt_str (pa_cons (pe_callB call_uLen (by rfl) T.b_len bt_len (pa_cons (pv 1) pa_nil)) pa_nil))) (pe_s [32] (by decide +kernel))) (pe_callTy call_uStr (by rfl) T.b_str bt_str (pa_cons (pe_op op_mod (pe_callTy call_uInt (by rfl) T.b_int bt_int (pa_cons (pv 2) pa_nil)) (pe_gi T.c_PRIME)) pa_nil))) (pe_s [32] (by decide +kernel))) (pv 1))))))), ?_⟩
  try dsimp only [cxOf, Cx.nox, Cx.wish]
  show (_ : TS) _ [some _, some _, none, none, none] _
  o_readsAll
  by_cases hl : cs.length ≤ 2000
  case neg =>
    refine c_boundX T.k_LIMITS_signs (by simp only [S_len]; omega) T.m_TOLD_signs fun d H1 fd e1 h1 => ?_
    exact kx (by omega) d H1 fd e1 h1
  replace k := k hl
  refine c_bound T.k_LIMITS_signs (by simp only [S_len]; omega) fun H1 e1 => ?_
  o_readsAll
  refine f_enumS (fun i σ' H' => ∃ a b, σ' = [some (.int n), some (.str (S cs)), some (.int ((n + ps cs i : Nat) : Int)), a, b] ∧ Same H H') ⟨_, _, rfl, e1⟩ ?_ ?_
  · rintro i c σ' H2 T1 H3 hi ⟨a, b, rfl, e2⟩ hT e3 h3
    have hi' : cs[i]? = some c := hi
    have hlt := (List.getElem?_eq_some_iff.mp hi').1
    o_readsAll
    have he : ((n + ps cs (i + 1) : Nat) : Int) = ((n + ps cs i : Nat) : Int) + ((i : Int) + 1) * (c : Int) := by
      show ((n + (ps cs i + (i + 1) * cs.getD i 0) : Nat) : Int) = _
      rw [List.getD_eq_getElem?_getD, hi', Option.getD_some]
      simp only [Int.natCast_add, Int.natCast_mul, Int.natCast_one, Int.cast_ofNat_Int, Int.add_assoc]
    exact ⟨some (.int i), some (.str (S [c])), by rw [he]; rfl, e2.trans e3⟩
  · rintro σ' H2 ⟨a, b, rfl, e2⟩
    have hb := ps_bound cs hc cs.length
    have hb2 : cs.length * cs.length * 1114111 ≤ 2000 * 2000 * 1114111 := Nat.mul_le_mul_right _ (Nat.mul_le_mul hl hl)
    have hm : (n + ps cs cs.length) % 9973 < 9973 := Nat.mod_lt _ (by decide)
    have q1 := l31 hn
    have q2 := l7 (n := cs.length) (by omega)
    have q3 := l7 (n := (n + ps cs cs.length) % 9973) (by omega)
    have q4 : (S cs).cps.toList.length = cs.length := rfl
    rw [q4]
    o_readsAll
    refine g_strW hn ?_
    o_readsAll
    rw [S_len]
    o_readsAll
    rw [show (((n + ps cs cs.length : Nat) : Int) % 9973) = (((n + ps cs cs.length) % 9973 : Nat) : Int) from rfl]
    o_readsAll
    rw [logL_eq]
    exact k _ e2
theorem c_lineZ {n : Nat} {cs : List Nat} {H : Hp} {Q : VK} {E : XK} (hn : n < 2 ^ 100) (hl : cs.length ≤ 2000) (hc : ∀ c ∈ cs, c ≤ 1114111) (k : ∀ H', Same H H' → Q (.str (S (logL n cs))) H') : sp_line Z [.int (n : Int), .str (S cs)] H Q E := ⟨n, cs, rfl, hn, hc, by omega, fun _ => k, fun h => by omega⟩
theorem c_lineX {n : Nat} {cs : List Nat} {H : Hp} {Q : VK} {E : XK} (hn : n < 2 ^ 100) (hl : 2000 < cs.length) (hl2 : cs.length ≤ 10000000) (hc : ∀ c ∈ cs, c ≤ 1114111) (k : ∀ d H', H d = none → Same H H' → H' d = some (.xd [("what", .str "signs")]) → E (.ref Z.a_TooMany) (some d) H') : sp_line Z [.int (n : Int), .str (S cs)] H Q E := ⟨n, cs, rfl, hn, hc, hl2, fun h => by omega, fun _ => k⟩
end
end L04

namespace L04
open SX Sp Lg TL
section
variable {P : Program} {w : World} {K : PySem.W.Frag} {mg : Str → Option Value} {base : Heap} {Z : Ad}
theorem c_line {n : Nat} {cs : List Nat} {H : Hp} {Q : VK} {E : XK} (hn : n < 1000000) (hl : cs.length ≤ 2000) (hc : ∀ c ∈ cs, c ≤ 1114111) (k : ∀ H', Same H H' → Q (.str (S (logL n cs))) H') : sp_line Z [.int (n : Int), .str (S cs)] H Q E := c_lineZ (Nat.lt_trans hn (by decide)) hl hc k
def sp_right : Sp := fun vs H Q _ => ∃ (cs : List Nat), vs = [.str (S cs)] ∧ cs.length ≤ 10000000 ∧ ∀ H', Same H H' → Q (.bl (okW cs)) H'
theorem c_right {cs : List Nat} {H : Hp} {Q : VK} {E : XK} (hl : cs.length ≤ 10000000) (k : ∀ H', Same H H' → Q (.bl (okW cs)) H') : sp_right [.str (S cs)] H Q E := ⟨cs, rfl, hl, k⟩
theorem any_bad (cs : List Nat) : ((List.range cs.length).map fun i => decide (((cs.getD i 0 : Nat) : Int) < 32) || decide ((126 : Int) < ((cs.getD i 0 : Nat) : Int))).any id = !cs.all okC := by
  induction cs with
  | nil => rfl
  | cons c r ih =>
    rw [List.length_cons, List.range_succ_eq_map, List.map_cons, List.map_map, List.any_cons, List.all_cons, Bool.not_and, ← ih]
    congr 1
    show (decide ((c : Int) < 32) || decide ((126 : Int) < (c : Int))) = !okC c
    unfold okC
    rw [Bool.not_and]
    congr 1
    · by_cases h : 32 ≤ c
      · rw [decide_eq_false (by omega), decide_eq_true h]; rfl
      · rw [decide_eq_true (by omega), decide_eq_false h]; rfl
    · by_cases h : c ≤ 126
      · rw [decide_eq_false (by omega), decide_eq_true h]; rfl
      · rw [decide_eq_true (by omega), decide_eq_false h]; rfl
theorem d_right_words (T : Txt K w mg Z) : Dfn P w K mg base 1 "right_words" ["words"] (sp_right) := by
  obtain ⟨f, fd, F, hm, hb⟩ := T.f_right_words
  refine ⟨f, fd, F.ok sc_right_words (fun vs H Q E h => by first | (obtain ⟨rfl, _⟩ := h; rfl) | (obtain ⟨_, rfl, _⟩ := h; rfl) | (obtain ⟨_, _, rfl, _⟩ := h; rfl) | (obtain ⟨_, _, _, rfl, _⟩ := h; rfl) | (obtain ⟨_, _, _, _, rfl, _⟩ := h; rfl) | (obtain ⟨_, _, _, _, _, rfl, _⟩ := h; rfl) | (obtain ⟨_, _, _, _, _, _, rfl, _⟩ := h; rfl) | (obtain ⟨_, _, _, _, _, _, _, rfl, _⟩ := h; rfl) | (obtain ⟨_, _, _, _, _, _, _, _, rfl, _⟩ := h; rfl) | (obtain ⟨_, _, _, _, _, _, _, _, _, rfl, _⟩ := h; rfl) | (obtain ⟨_, _, _, _, _, _, _, _, _, _, rfl, _⟩ := h; rfl) | (obtain ⟨_, _, _, _, _, _, _, _, _, _, _, rfl, _⟩ := h; rfl) | (obtain ⟨_, _, _, _, _, _, _, _, _, _, _, _, rfl, _⟩ := h; rfl) | (obtain ⟨_, _, _, _, _, _, _, _, _, _, _, _, _, rfl, _⟩ := h; rfl) | (obtain ⟨_, _, _, _, _, _, _, _, _, _, _, _, _, _, rfl, _⟩ := h; rfl) | (obtain ⟨_, _, _, _, _, _, _, _, _, _, _, _, _, _, _, rfl, _⟩ := h; rfl) | (obtain ⟨_, _, _, _, _, _, _, _, _, _, _, _, _, _, _, _, rfl, _⟩ := h; rfl)) (fun cdv A outer s H vs Q E hr h => ?_), hm, F.kp, hb⟩
  obtain ⟨cs, rfl, hl, k⟩ := h
  refine ⟨_, (pss_one (ps_ret (pe_and (pe_cmpR op_le (pe_callB call_uLen (by rfl) T.b_len bt_len (pa_cons (pv 0) pa_nil)) pe_int (nomark _)) (pe_one (pe_not (pe_callB (cr_any rfl) (by rfl) T.b_any bt_any (pa_cons (pe_lc (own := [("sign", 1)]) (by rfl) sc_right_words.nd (pi_str (pv 0)) (blkOk_by (N := n_right_words) (sc := defScope st_right_words) (by decide +kernel)) (fun _ _ _ _ _ => (pg_name (i := 1) sc_right_words.nd rfl (.inl rfl))) (fun _ _ _ _ _ => pts_nil) (fun _ _ _ _ _ => (pe_or (pe_cmpR op_lt (pe_callB call_uOrd (by rfl) T.b_ord bt_ord (pa_cons (pv 1) pa_nil)) (pe_gi T.c_LEAST) (nomark _)) (pe_one (pe_cmpR op_gt (pe_callB call_uOrd (by rfl) T.b_ord bt_ord (pa_cons (pv 1) pa_nil)) (pe_gi T.c_GREATEST) (nomark _)))))) pa_nil))))))), ?_⟩
  try dsimp only [cxOf, Cx.nox, Cx.wish]
  show (_ : TS) _ [some _, none] _
  o_readsAll
  refine jnA (fun x H1 => x = .bl (okW cs) ∧ Same H H1) ?_ (fun Q' hQ => br (fun hc => ?_) (fun hc => ?_))
  · rintro x H1 ⟨rfl, e1⟩
    exact k _ e1
  · rw [S_len] at hc
    o_readsAll
    refine l_strP (fun i => .bl (decide (((cs.getD i 0 : Nat) : Int) < 32) || decide ((126 : Int) < ((cs.getD i 0 : Nat) : Int)))) (fun x => rfl) (fun D i c H' hi hD e hl' => ?_) fun q H2 hq e2 h2 => ?_
    · have hi' : cs[i]? = some c := hi
      have hlt := (List.getElem?_eq_some_iff.mp hi').1
      o_readsAll
      refine jnO (fun x H1 => x = .bl (decide (((cs.getD i 0 : Nat) : Int) < 32) || decide ((126 : Int) < ((cs.getD i 0 : Nat) : Int))) ∧ H1 = H') ?_ (fun Q' hQ => br (fun hc => ?_) (fun hc => ?_))
      · rintro x H1 ⟨rfl, rfl⟩
        exact g_itemP e hl' hD (by rw [sizeLine_eq]; omega) rfl
      · o_readsAll
        refine hQ _ _ ⟨?_, rfl⟩
        rw [List.getD_eq_getElem?_getD, hi', Option.getD_some, decide_eq_true hc]; rfl
      · o_readsAll
        refine hQ _ _ ⟨?_, rfl⟩
        rw [List.getD_eq_getElem?_getD, hi', Option.getD_some, decide_eq_false hc]; rfl
    · have h3 : H2 q = some (.lst (((List.range cs.length).map fun i => decide (((cs.getD i 0 : Nat) : Int) < 32) || decide ((126 : Int) < ((cs.getD i 0 : Nat) : Int))).map V.bl)) := by
        rw [List.map_map]; exact h2
      o_readsAll
      refine g_any (.of h3) ?_
      rw [any_bad]
      o_readsAll
      refine hQ _ _ ⟨?_, e2⟩
      unfold okW
      rw [decide_eq_true (show cs.length ≤ 2000 by omega), Bool.not_not]; rfl
  · rw [S_len] at hc
    o_readsAll
    refine hQ _ _ ⟨?_, Same.refl _⟩
    unfold okW
    rw [decide_eq_false (show ¬ cs.length ≤ 2000 by omega)]; rfl
end
end L04

namespace L04
open SX Sp Lg TL
section
variable {P : Program} {w : World} {K : PySem.W.Frag} {mg : Str → Option Value} {base : Heap} {Z : Ad}
def optV : Option (List Nat) → V
  | none => .non
  | some w => .str (S w)
def sp_lwords : Sp := fun vs H Q _ => ∃ (p : List Nat) (n : Nat), vs = [.str (S p), .int n] ∧ p.length ≤ 10000000 ∧ n < 1000000 ∧ ∀ H', Same H H' → Q (optV (lineW p n)) H'
theorem c_lwords {p : List Nat} {n : Nat} {H : Hp} {Q : VK} {E : XK} (hl : p.length ≤ 10000000) (hn : n < 1000000) (k : ∀ H', Same H H' → Q (optV (lineW p n)) H') : sp_lwords [.str (S p), .int n] H Q E := ⟨p, n, rfl, hl, hn, k⟩
theorem splN_len (c : Nat) : ∀ (l : List Nat) (k : Nat) (acc w : List Nat), w ∈ splN c k acc l → w.length ≤ acc.length + l.length
  | [], k, acc, w, h => by rw [splN_nil] at h; simp at h; subst h; simp
  | d :: r, 0, acc, w, h => by
    simp only [splN, List.mem_singleton] at h
    subst h
    simp
  | d :: r, k + 1, acc, w, h => by
    unfold splN at h
    split at h
    · rcases List.mem_cons.mp h with h | h
      · subst h; simp
      · have := splN_len c r k [] w h
        simp at this ⊢
        omega
    · have := splN_len c r (k + 1) _ w h
      simp at this ⊢
      omega
theorem d_line_words (T : Txt K w mg Z) : Dfn P w K mg base 5 "line_words" ["piece", "number"] (sp_lwords) := by
  obtain ⟨f, fd, F, hm, hb⟩ := T.f_line_words
  refine ⟨f, fd, F.ok sc_line_words (fun vs H Q E h => by first | (obtain ⟨rfl, _⟩ := h; rfl) | (obtain ⟨_, rfl, _⟩ := h; rfl) | (obtain ⟨_, _, rfl, _⟩ := h; rfl) | (obtain ⟨_, _, _, rfl, _⟩ := h; rfl) | (obtain ⟨_, _, _, _, rfl, _⟩ := h; rfl) | (obtain ⟨_, _, _, _, _, rfl, _⟩ := h; rfl) | (obtain ⟨_, _, _, _, _, _, rfl, _⟩ := h; rfl) | (obtain ⟨_, _, _, _, _, _, _, rfl, _⟩ := h; rfl) | (obtain ⟨_, _, _, _, _, _, _, _, rfl, _⟩ := h; rfl) | (obtain ⟨_, _, _, _, _, _, _, _, _, rfl, _⟩ := h; rfl) | (obtain ⟨_, _, _, _, _, _, _, _, _, _, rfl, _⟩ := h; rfl) | (obtain ⟨_, _, _, _, _, _, _, _, _, _, _, rfl, _⟩ := h; rfl) | (obtain ⟨_, _, _, _, _, _, _, _, _, _, _, _, rfl, _⟩ := h; rfl) | (obtain ⟨_, _, _, _, _, _, _, _, _, _, _, _, _, rfl, _⟩ := h; rfl) | (obtain ⟨_, _, _, _, _, _, _, _, _, _, _, _, _, _, rfl, _⟩ := h; rfl) | (obtain ⟨_, _, _, _, _, _, _, _, _, _, _, _, _, _, _, rfl, _⟩ := h; rfl) | (obtain ⟨_, _, _, _, _, _, _, _, _, _, _, _, _, _, _, _, rfl, _⟩ := h; rfl)) (fun cdv A outer s H vs Q E hr h => ?_), hm, F.kp, hb⟩
  obtain ⟨p, n, rfl, hl, hn, k⟩ := h
  have D_right_words := d_right_words (P := P) (base := base) T
  have D_log_line := d_log_line (P := P) (base := base) T
  refine ⟨_, (pss_cons (ps_set (i := 2) sc_line_words.nd rfl (.inl rfl) (pe_bm PySem.F.plainAttrs_str PySem.F.slot_str_split PySem.F.type_str_split mt_uSplitM (pv 0) (pa_cons (pe_s [32] (by decide +kernel)) (pa_cons pe_int pa_nil))))
      (pss_cons (ps_if (PW.pt (pw_or (pt_cmpR (op_uNe hr.units) (pe_callB call_uLen (by rfl) T.b_len bt_len (pa_cons (pv 2) pa_nil)) pe_int (nomark _)) (pw_or (pt_not (pt_u (pe_dfn D_right_words (hr.mono (by decide)) (by rfl) (pa_cons (pe_ix ix_seq (pv 2) pe_int (fun _ _ => rfl)) pa_nil)))) (pw_or1 (pt_cmpR (op_uNe hr.units) (pe_dfnS D_log_line (hr.mono (by decide)) (by rfl) takes0 (pa_cons (pv 1) (pa_cons (pe_ix ix_seq (pv 2) pe_int (fun _ _ => rfl)) pa_nil))) (pv 0) (nomark _)))))) (pss_one (ps_ret pe_non)) pss_nil)
      (pss_one (ps_ret (pe_ix ix_seq (pv 2) pe_int (fun _ _ => rfl)))))), ?_⟩
  try dsimp only [cxOf, Cx.nox, Cx.wish]
  show (_ : TS) _ [some _, some _, none] _
  o_readsAll
  refine g_splitM (by rfl) (by decide) (by rw [S_len, sizeLine_eq]; omega) fun q H1 hq e1 h1 => ?_
  rw [show (3 : Int) = ((3 : Nat) : Int) from rfl, splitMax_S (by decide), List.map_map] at h1
  o_readsAll
  unfold lineW at k
  refine brn (fun hc => ?_) (fun hc => ?_)
  · rw [List.length_map] at hc
    rw [if_neg (by omega)] at k
    o_readsAll
    exact k _ e1
  · rw [List.length_map] at hc
    have hc' : (splN 32 3 [] p).length = 4 := by omega
    rw [if_pos hc'] at k
    have hw : (splN 32 3 [] p)[3]? = some ((splN 32 3 [] p).getD 3 []) := by rw [List.getD_eq_getElem?_getD, List.getElem?_eq_getElem (by omega)]; rfl
    generalize (splN 32 3 [] p).getD 3 [] = ws at k hw
    have hwl : ws.length ≤ p.length := by
      have := splN_len 32 p 3 [] ws (List.mem_of_getElem? hw)
      simpa using this
    have ha : atI ((splN 32 3 [] p).map (V.str ∘ S)) 3 = some (.str (S ws)) := at_ofN (j := 3) rfl (by rw [List.getElem?_map, hw]; rfl)
    o_readsAll
    refine g_ixL (.of h1) ha ?_
    o_readsAll
    refine c_right (by omega) fun H2 e2 => ?_
    o_readsAll
    cases ho : okW ws with
    | false =>
      rw [if_neg (fun h => by rw [ho] at h; exact Bool.noConfusion h.1)] at k
      refine brT rfl ?_
      o_readsAll
      exact k _ (e1.trans e2)
    | true =>
      refine brF rfl ?_
      o_readsAll
      refine g_ixL (.of (e2 _ _ h1)) ha ?_
      o_readsAll
      refine c_line hn (okW_len ho) (fun c hc => by have := (okW_sign ho c hc).2; omega) fun H3 e3 => ?_
      o_readsAll
      refine brn (fun hc => ?_) (fun hc => ?_)
      · rw [if_neg (fun h => hc (congrArg S h.2))] at k
        o_readsAll
        exact k _ ((e1.trans e2).trans e3)
      · rw [if_pos ⟨ho, S_inj hc⟩] at k
        o_readsAll
        refine g_ixL (.of (e3 _ _ (e2 _ _ h1))) ha ?_
        o_readsAll
        exact k _ ((e1.trans e2).trans e3)
end
end L04

namespace L04
open SX Sp Lg TL
section
variable {P : Program} {w : World} {K : PySem.W.Frag} {mg : Str → Option Value} {base : Heap} {Z : Ad}
theorem c_ll {n : Nat} {cs : List Nat} {H : Hp} {Q : VK} {E : XK} (hn : n < 2 ^ 100) (hl : cs.length ≤ 2000) (hc : ∀ c ∈ cs, c ≤ 1114111) (k : ∀ H', Same H H' → Q (.str (S (logL n cs))) H') : sp_lline [.int (n : Int), .str (S cs)] H Q E := ⟨n, cs, rfl, hn, hl, hc, k⟩
theorem d_law_log_line (T : Txt K w mg Z) : Dfn P w K mg base 1 "_law_log_line" ["number", "words"] (sp_lline) := by
  obtain ⟨f, fd, F, hm, hb⟩ := T.f_law_log_line
  refine ⟨f, fd, F.ok sc_law_log_line (fun vs H Q E h => by first | (obtain ⟨rfl, _⟩ := h; rfl) | (obtain ⟨_, rfl, _⟩ := h; rfl) | (obtain ⟨_, _, rfl, _⟩ := h; rfl) | (obtain ⟨_, _, _, rfl, _⟩ := h; rfl) | (obtain ⟨_, _, _, _, rfl, _⟩ := h; rfl) | (obtain ⟨_, _, _, _, _, rfl, _⟩ := h; rfl) | (obtain ⟨_, _, _, _, _, _, rfl, _⟩ := h; rfl) | (obtain ⟨_, _, _, _, _, _, _, rfl, _⟩ := h; rfl) | (obtain ⟨_, _, _, _, _, _, _, _, rfl, _⟩ := h; rfl) | (obtain ⟨_, _, _, _, _, _, _, _, _, rfl, _⟩ := h; rfl) | (obtain ⟨_, _, _, _, _, _, _, _, _, _, rfl, _⟩ := h; rfl) | (obtain ⟨_, _, _, _, _, _, _, _, _, _, _, rfl, _⟩ := h; rfl) | (obtain ⟨_, _, _, _, _, _, _, _, _, _, _, _, rfl, _⟩ := h; rfl) | (obtain ⟨_, _, _, _, _, _, _, _, _, _, _, _, _, rfl, _⟩ := h; rfl) | (obtain ⟨_, _, _, _, _, _, _, _, _, _, _, _, _, _, rfl, _⟩ := h; rfl) | (obtain ⟨_, _, _, _, _, _, _, _, _, _, _, _, _, _, _, rfl, _⟩ := h; rfl) | (obtain ⟨_, _, _, _, _, _, _, _, _, _, _, _, _, _, _, _, rfl, _⟩ := h; rfl)) (fun cdv A outer s H vs Q E hr h => ?_), hm, F.kp, hb⟩
  obtain ⟨n, cs, rfl, hn, hl, hc, k⟩ := h
  refine ⟨_, (pss_cons (ps_set (i := 2) sc_law_log_line.nd rfl (.inl rfl) (pv 0))
      (pss_cons (ps_for PassesOwn.never rfl (pi_range1 (by rfl) T.b_range (pa_cons (pe_callB call_uLen (by rfl) T.b_len bt_len (pa_cons (pv 1) pa_nil)) pa_nil)) (pg_name (i := 3) sc_law_log_line.nd rfl (.inl rfl))
        (pss_one (ps_aug (i := 2) sc_law_log_line.nd rfl (.inl rfl) (pe_op op_uMul (pe_op op_uAdd (pv 3) pe_int) (pe_callB call_uOrd (by rfl) T.b_ord bt_ord (pa_cons (pe_ix ix_seq (pv 1) (pv 3) (fun _ _ => rfl)) pa_nil))) ip_add)))
      (pss_one (ps_ret (pe_op op_uAdd (pe_op op_uAdd (pe_op op_uAdd (pe_op op_uAdd (pe_op op_uAdd (pe_op op_uAdd (pe_callTy call_uStr (by rfl) T.b_str bt_str (pa_cons (pv 0) pa_nil)) (pe_s [32] (by decide +kernel))) (pe_callTy call_uStr (by rfl) T.b_str bt_str (pa_cons (pe_callB call_uLen (by rfl) T.b_len bt_len (pa_cons (pv 1) pa_nil)) pa_nil))) (pe_s [32] (by decide +kernel))) (pe_callTy call_uStr (by rfl) T.b_str bt_str (pa_cons (pe_op op_mod (pv 2) pe_int) pa_nil))) (pe_s [32] (by decide +kernel))) (pv 1)))))), ?_⟩
  try dsimp only [cxOf, Cx.nox, Cx.wish]
  show (_ : TS) _ [some _, some _, none, none] _
  o_readsAll
  refine f_rng (fun i σ' H' => ∃ a, σ' = [some (.int n), some (.str (S cs)), some (.int ((n + ps cs i : Nat) : Int)), a] ∧ Same H H') ⟨_, rfl, Same.refl _⟩ ?_ ?_
  · rintro i σ' H2 hi ⟨a, rfl, e2⟩
    rw [S_len, Int.toNat_natCast] at hi
    have hi' : cs[i]? = some (cs.getD i 0) := by rw [List.getD_eq_getElem?_getD, List.getElem?_eq_getElem hi]; rfl
    rw [Int.zero_add]
    o_readsAll
    refine g_ixS (by pre_facts) (atI_nat hi') ?_
    have he : ((n + ps cs (i + 1) : Nat) : Int) = ((n + ps cs i : Nat) : Int) + ((i : Int) + 1) * ((cs.getD i 0 : Nat) : Int) := by
      show ((n + (ps cs i + (i + 1) * cs.getD i 0) : Nat) : Int) = _
      simp only [Int.natCast_add, Int.natCast_mul, Int.natCast_one, Int.cast_ofNat_Int, Int.add_assoc]
    o_readsAll
    exact ⟨some (.int i), by rw [he]; rfl, e2⟩
  · rintro σ' H2 ⟨a, rfl, e2⟩
    rw [S_len, Int.toNat_natCast]
    have hb := ps_bound cs hc cs.length
    have hb2 : cs.length * cs.length * 1114111 ≤ 2000 * 2000 * 1114111 := Nat.mul_le_mul_right _ (Nat.mul_le_mul hl hl)
    have hm : (n + ps cs cs.length) % 9973 < 9973 := Nat.mod_lt _ (by decide)
    have q1 := l31 hn
    have q2 := l7 (n := cs.length) (by omega)
    have q3 := l7 (n := (n + ps cs cs.length) % 9973) (by omega)
    o_readsAll
    refine g_strW hn ?_
    o_readsAll
    rw [S_len]
    o_readsAll
    rw [show (((n + ps cs cs.length : Nat) : Int) % 9973) = (((n + ps cs cs.length) % 9973 : Nat) : Int) from rfl]
    o_readsAll
    rw [logL_eq]
    exact k _ e2
def sp_text (K : PySem.W.Frag) : Sp := fun vs H Q _ => ∃ (a : Addr) (rows : List (List Nat)), vs = [.ref a] ∧ SqL K H a (rows.map fun w => .str (S w)) ∧ rows.length ≤ 2001 ∧ (∀ w ∈ rows, okW w = true) ∧ ∀ H', Same H H' → Q (.str (S (logT 0 rows))) H'
theorem c_text {a : Addr} {rows : List (List Nat)} {H : Hp} {Q : VK} {E : XK} (h : SqL K H a (rows.map fun w => .str (S w))) (hl : rows.length ≤ 2001) (hw : ∀ w ∈ rows, okW w = true) (k : ∀ H', Same H H' → Q (.str (S (logT 0 rows))) H') : sp_text K [.ref a] H Q E := ⟨a, rows, rfl, h, hl, hw, k⟩
theorem joinL_nil : ∀ ys : List (List Nat), joinL [] ys = ys.flatten
  | [] => rfl
  | [p] => by simp [joinL]
  | p :: q :: r => by
    show p ++ ([] ++ joinL [] (q :: r)) = _
    rw [joinL_nil (q :: r)]
    simp
theorem logT_flat : ∀ (rows : List (List Nat)) (k : Nat), ((List.range rows.length).map fun i => logL (k + i + 1) (rows.getD i []) ++ [10]).flatten = logT k rows
  | [], k => rfl
  | w :: r, k => by
    have ih := logT_flat r (k + 1)
    rw [List.length_cons, List.range_succ_eq_map, List.map_cons, List.map_map, List.flatten_cons, logT, ← ih]
    simp only [List.append_assoc, List.cons_append, List.nil_append]
    congr 4
    · funext i
      show logL (k + (i + 1) + 1) _ ++ [10] = _
      rw [show k + (i + 1) + 1 = k + 1 + i + 1 by omega]
      rfl
theorem d_law_log_text (T : Txt K w mg Z) : Dfn P w K mg base 2 "_law_log_text" ["rows"] (sp_text K) := by
  obtain ⟨f, fd, F, hm, hb⟩ := T.f_law_log_text
  refine ⟨f, fd, F.ok sc_law_log_text (fun vs H Q E h => by first | (obtain ⟨rfl, _⟩ := h; rfl) | (obtain ⟨_, rfl, _⟩ := h; rfl) | (obtain ⟨_, _, rfl, _⟩ := h; rfl) | (obtain ⟨_, _, _, rfl, _⟩ := h; rfl) | (obtain ⟨_, _, _, _, rfl, _⟩ := h; rfl) | (obtain ⟨_, _, _, _, _, rfl, _⟩ := h; rfl) | (obtain ⟨_, _, _, _, _, _, rfl, _⟩ := h; rfl) | (obtain ⟨_, _, _, _, _, _, _, rfl, _⟩ := h; rfl) | (obtain ⟨_, _, _, _, _, _, _, _, rfl, _⟩ := h; rfl) | (obtain ⟨_, _, _, _, _, _, _, _, _, rfl, _⟩ := h; rfl) | (obtain ⟨_, _, _, _, _, _, _, _, _, _, rfl, _⟩ := h; rfl) | (obtain ⟨_, _, _, _, _, _, _, _, _, _, _, rfl, _⟩ := h; rfl) | (obtain ⟨_, _, _, _, _, _, _, _, _, _, _, _, rfl, _⟩ := h; rfl) | (obtain ⟨_, _, _, _, _, _, _, _, _, _, _, _, _, rfl, _⟩ := h; rfl) | (obtain ⟨_, _, _, _, _, _, _, _, _, _, _, _, _, _, rfl, _⟩ := h; rfl) | (obtain ⟨_, _, _, _, _, _, _, _, _, _, _, _, _, _, _, rfl, _⟩ := h; rfl) | (obtain ⟨_, _, _, _, _, _, _, _, _, _, _, _, _, _, _, _, rfl, _⟩ := h; rfl)) (fun cdv A outer s H vs Q E hr h => ?_), hm, F.kp, hb⟩
  obtain ⟨a, rows, rfl, hS, hl, hw, k⟩ := h
  have D_law_log_line := d_law_log_line (P := P) (base := base) T
  refine ⟨_, (pss_one (ps_ret (pe_bm PySem.F.plainAttrs_str PySem.F.slot_str_join PySem.F.type_str_join mt_uJoin (pe_s [] (by decide +kernel)) (pa_cons (pe_lc (own := [("at", 1)]) (by rfl) sc_law_log_text.nd (pi_range1 (by rfl) T.b_range (pa_cons (pe_callB call_uLen (by rfl) T.b_len bt_len (pa_cons (pv 0) pa_nil)) pa_nil)) (blkOk_by (N := n_law_log_text) (sc := defScope st_law_log_text) (by decide +kernel)) (fun _ _ _ _ _ => (pg_name (i := 1) sc_law_log_text.nd rfl (.inl rfl))) (fun _ _ _ _ _ => pts_nil) (fun _ _ _ _ _ => (pe_op (op_uAddK (K := K) rfl) (pe_dfn D_law_log_line (hr.mono (by decide)) (by rfl) (pa_cons (pe_op (op_uAddK (K := K) rfl) (pv 1) pe_int) (pa_cons (pe_ix (ix_seqK (K := K) rfl) (pv 0) (pv 1) (fun _ _ => rfl)) pa_nil))) (pe_s [10] (by decide +kernel))))) pa_nil)))), ?_⟩
  try dsimp only [cxOf, Cx.nox, Cx.wish]
  show (_ : TS) _ [some _, none] _
  o_readsAll
  rw [List.length_map, Int.toNat_natCast]
  refine l_rngP (fun i => .str (S (logL (i + 1) (rows.getD i []) ++ [10]))) (fun x => rfl) (fun D i H' hi hD e hl' => ?_) fun q H2 hq e2 h2 => ?_
  · have hi' : rows[i]? = some (rows.getD i []) := by rw [List.getD_eq_getElem?_getD, List.getElem?_eq_getElem hi]; rfl
    have ho := hw _ (List.mem_of_getElem? hi')
    rw [Int.zero_add]
    o_readsAll
    refine g_ixL (e.seq hS) (atI_nat (by rw [List.getElem?_map, hi']; rfl)) ?_
    o_readsAll
    rw [show ((i : Int) + 1) = ((i + 1 : Nat) : Int) from rfl]
    refine c_ll (by omega) (okW_len ho) (fun c hc => by have := (okW_sign ho c hc).2; omega) fun H3 e3 => ?_
    have hq := logL_len (n := i + 1) (w := rows.getD i []) (by omega) (okW_len ho)
    o_readsAll
    exact g_itemP (e.trans e3) (e3 _ _ hl') hD (by rw [sizeLine_eq]; omega) (by rw [S_cat])
  · have h3 : H2 q = some (.lst (((List.range rows.length).map fun i => S (logL (i + 1) (rows.getD i []) ++ [10])).map V.str)) := by rw [List.map_map]; exact h2
    o_readsAll
    have hj := logT_len (rows := rows) (k := 0) (by omega) (fun w hw' => okW_len (hw w hw'))
    have hf := logT_flat rows 0
    simp only [Nat.zero_add] at hf
    refine g_join (.of h3) ?_ ?_
    · rw [List.map_map, List.length_map, List.length_range]
      have hs : ((List.range rows.length).map ((fun x : Str => x.length) ∘ fun i => S (logL (i + 1) (rows.getD i []) ++ [10]))).sum = (logT 0 rows).length := by
        rw [← hf, List.length_flatten, List.map_map]
        congr 1
      rw [hs]
      simp only [S_len, List.length_nil, Nat.mul_zero]
      omega
    · rw [show ((List.range rows.length).map fun i => S (logL (i + 1) (rows.getD i []) ++ [10])) = ((List.range rows.length).map fun i => logL (i + 1) (rows.getD i []) ++ [10]).map S by rw [List.map_map]; rfl, join_S, joinL_nil, hf]
      exact k _ e2
def sgn : List Nat := [32, 33, 34, 35, 36, 38, 39, 40, 41, 42, 43, 44, 45, 46, 47, 48, 49, 50, 51, 52, 53, 54, 55, 56, 57, 58, 59, 60, 61, 62, 63, 64, 65, 66, 67, 68, 69, 70, 71, 72, 73, 74, 75, 76, 77, 78, 79, 80, 81, 82, 83, 84, 85, 86, 87, 88, 89, 90, 91, 92, 93, 94, 95, 96, 97, 98, 99, 100, 101, 102, 103, 104, 105, 106, 107, 108, 109, 110, 111, 112, 113, 114, 115, 116, 117, 118, 119, 120, 121, 122, 123, 124, 125, 126]
theorem sgn_at (i : Nat) (h : i < 94) : ∃ c, sgn[i]? = some c ∧ 32 ≤ c ∧ c ≤ 126 := by
  have : ∀ i : Fin 94, ∃ c, sgn[i.val]? = some c ∧ 32 ≤ c ∧ c ≤ 126 := by
    intro i
    have h : (List.range 94).all (fun i => match sgn[i]? with | some c => decide (32 ≤ c) && decide (c ≤ 126) | none => false) = true := by decide +kernel
    have h2 := List.all_eq_true.mp h i.val (by simp)
    cases hc : sgn[i.val]? with
    | none => rw [hc] at h2; cases h2
    | some c =>
      rw [hc] at h2
      simp only [Bool.and_eq_true, decide_eq_true_eq] at h2
      exact ⟨c, rfl, h2⟩
  exact this ⟨i, h⟩
def sp_signs : Sp := fun vs H Q _ => vs = [] ∧ ∀ H', Same H H' → Q (.str (S sgn)) H'
theorem c_signs {H : Hp} {Q : VK} {E : XK} (k : ∀ H', Same H H' → Q (.str (S sgn)) H') : sp_signs [] H Q E := ⟨rfl, k⟩
theorem d_law_signs (T : Txt K w mg Z) : Dfn P w K mg base 1 "_law_signs" [] (sp_signs) := by
  obtain ⟨f, fd, F, hm, hb⟩ := T.f_law_signs
  refine ⟨f, fd, F.ok sc_law_signs (fun vs H Q E h => by first | (obtain ⟨rfl, _⟩ := h; rfl) | (obtain ⟨_, rfl, _⟩ := h; rfl) | (obtain ⟨_, _, rfl, _⟩ := h; rfl) | (obtain ⟨_, _, _, rfl, _⟩ := h; rfl) | (obtain ⟨_, _, _, _, rfl, _⟩ := h; rfl) | (obtain ⟨_, _, _, _, _, rfl, _⟩ := h; rfl) | (obtain ⟨_, _, _, _, _, _, rfl, _⟩ := h; rfl) | (obtain ⟨_, _, _, _, _, _, _, rfl, _⟩ := h; rfl) | (obtain ⟨_, _, _, _, _, _, _, _, rfl, _⟩ := h; rfl) | (obtain ⟨_, _, _, _, _, _, _, _, _, rfl, _⟩ := h; rfl) | (obtain ⟨_, _, _, _, _, _, _, _, _, _, rfl, _⟩ := h; rfl) | (obtain ⟨_, _, _, _, _, _, _, _, _, _, _, rfl, _⟩ := h; rfl) | (obtain ⟨_, _, _, _, _, _, _, _, _, _, _, _, rfl, _⟩ := h; rfl) | (obtain ⟨_, _, _, _, _, _, _, _, _, _, _, _, _, rfl, _⟩ := h; rfl) | (obtain ⟨_, _, _, _, _, _, _, _, _, _, _, _, _, _, rfl, _⟩ := h; rfl) | (obtain ⟨_, _, _, _, _, _, _, _, _, _, _, _, _, _, _, rfl, _⟩ := h; rfl) | (obtain ⟨_, _, _, _, _, _, _, _, _, _, _, _, _, _, _, _, rfl, _⟩ := h; rfl)) (fun cdv A outer s H vs Q E hr h => ?_), hm, F.kp, hb⟩
  obtain ⟨rfl, k⟩ := h
  refine ⟨_, (pss_one (ps_ret pe_str)), ?_⟩
  try dsimp only [cxOf, Cx.nox, Cx.wish]
  show (_ : TS) _ [] _
  o_readsAll
  rw [show (Str.ofString " !\"#$&'()*+,-./0123456789:;<=>?@ABCDEFGHIJKLMNOPQRSTUVWXYZ[\\]^_`abcdefghijklmnopqrstuvwxyz{|}~") = S sgn by decide +kernel]
  exact k _ (Same.refl _)
end
end L04

namespace L04
open SX Sp Lg TL
section
variable {P : Program} {w : World} {K : PySem.W.Frag} {mg : Str → Option Value} {base : Heap} {Z : Ad}
theorem c_draw {a : Addr} {m : Int} {H : Hp} {Q : VK} {E : XK} (h0 : 0 < m) (h1 : m < 2 ^ 200) (hs : Stk H a) (k : ∀ r H', 0 ≤ r → r < m → Stk H' a → Off a H H' → Q (.int r) H') : sp_draw [.ref a, .int m] H Q E := ⟨a, m, rfl, h0, h1, hs, k⟩
theorem c_stock {a : Addr} {ns : List Int} {at_ : Nat} {H : Hp} {Q : VK} {E : XK} (h : SqL K H a (ns.map V.int)) (hn : ns.length ≤ 63) (ha : at_ < 1000000) (k : ∀ p H', H p = none → Same H H' → Stk H' p → Q (.ref p) H') : sp_stock K [.ref a, .int at_] H Q E := ⟨a, ns, at_, rfl, h, hn, ha, k⟩
theorem Stk.same {H H' : Hp} {a : Addr} (s : Stk H a) (e : Same H H') : Stk H' a := let ⟨x, y, z, h⟩ := s; ⟨x, y, z, e _ _ h⟩
theorem Stk.off {H H' : Hp} {a b : Addr} (s : Stk H a) (h : a ≠ b) (e : Off b H H') : Stk H' a := let ⟨x, y, z, q⟩ := s; ⟨x, y, z, e _ _ h q⟩
theorem Stk.ne {H : Hp} {a l : Addr} (s : Stk H a) (h : H l = none) : a ≠ l := let ⟨_, _, _, q⟩ := s; ne_of_none q h
theorem flat1 : ∀ acc : List Nat, (acc.map fun c => [c]).flatten = acc
  | [] => rfl
  | c :: r => by simp [flat1 r]
theorem sum1 : ∀ acc : List Nat, (acc.map fun _ => 1).sum = acc.length
  | [] => rfl
  | c :: r => by rw [List.map_cons, List.sum_cons, sum1 r, List.length_cons]; omega
def sp_words : Sp := fun vs H Q _ => ∃ (a : Addr) (m : Int), vs = [.ref a, .int m] ∧ 0 ≤ m ∧ m ≤ 1000 ∧ Stk H a ∧ ∀ cs H', (cs.length : Int) ≤ m → okW cs = true → Stk H' a → Off a H H' → Q (.str (S cs)) H'
theorem c_words {a : Addr} {m : Int} {H : Hp} {Q : VK} {E : XK} (h0 : 0 ≤ m) (h1 : m ≤ 1000) (hs : Stk H a) (k : ∀ cs H', (cs.length : Int) ≤ m → okW cs = true → Stk H' a → Off a H H' → Q (.str (S cs)) H') : sp_words [.ref a, .int m] H Q E := ⟨a, m, rfl, h0, h1, hs, k⟩
theorem d_law_words (T : Txt K w mg Z) : Dfn P w K mg base 2 "_law_words" ["stock", "most"] (sp_words) := by
  obtain ⟨f, fd, F, hm, hb⟩ := T.f_law_words
  refine ⟨f, fd, F.ok sc_law_words (fun vs H Q E h => by first | (obtain ⟨rfl, _⟩ := h; rfl) | (obtain ⟨_, rfl, _⟩ := h; rfl) | (obtain ⟨_, _, rfl, _⟩ := h; rfl) | (obtain ⟨_, _, _, rfl, _⟩ := h; rfl) | (obtain ⟨_, _, _, _, rfl, _⟩ := h; rfl) | (obtain ⟨_, _, _, _, _, rfl, _⟩ := h; rfl) | (obtain ⟨_, _, _, _, _, _, rfl, _⟩ := h; rfl) | (obtain ⟨_, _, _, _, _, _, _, rfl, _⟩ := h; rfl) | (obtain ⟨_, _, _, _, _, _, _, _, rfl, _⟩ := h; rfl) | (obtain ⟨_, _, _, _, _, _, _, _, _, rfl, _⟩ := h; rfl) | (obtain ⟨_, _, _, _, _, _, _, _, _, _, rfl, _⟩ := h; rfl) | (obtain ⟨_, _, _, _, _, _, _, _, _, _, _, rfl, _⟩ := h; rfl) | (obtain ⟨_, _, _, _, _, _, _, _, _, _, _, _, rfl, _⟩ := h; rfl) | (obtain ⟨_, _, _, _, _, _, _, _, _, _, _, _, _, rfl, _⟩ := h; rfl) | (obtain ⟨_, _, _, _, _, _, _, _, _, _, _, _, _, _, rfl, _⟩ := h; rfl) | (obtain ⟨_, _, _, _, _, _, _, _, _, _, _, _, _, _, _, rfl, _⟩ := h; rfl) | (obtain ⟨_, _, _, _, _, _, _, _, _, _, _, _, _, _, _, _, rfl, _⟩ := h; rfl)) (fun cdv A outer s H vs Q E hr h => ?_), hm, F.kp, hb⟩
  obtain ⟨a, m, rfl, h0, h1, hs, k⟩ := h
  have D_law_signs := d_law_signs (P := P) (base := base) T
  have D_law_draw := d_law_draw (P := P) (base := base) T
  refine ⟨_, (pss_cons (ps_set (i := 2) sc_law_words.nd rfl (.inl rfl) (pe_dfn0 D_law_signs (hr.mono (by decide)) (by rfl)))
      (pss_cons (ps_set (i := 3) sc_law_words.nd rfl (.inl rfl) (pe_lst pa_nil))
      (pss_cons (ps_for PassesOwn.never rfl (pi_range1 (by rfl) T.b_range (pa_cons (pe_dfn D_law_draw (hr.mono (by decide)) (by rfl) (pa_cons (pv 0) (pa_cons (pe_op op_uAdd (pv 1) pe_int) pa_nil))) pa_nil)) (pg_name (i := 4) sc_law_words.nd rfl (.inl rfl))
        (pss_cons (ps_set (i := 5) sc_law_words.nd rfl (.inl rfl) (pe_dfn D_law_draw (hr.mono (by decide)) (by rfl) (pa_cons (pv 0) (pa_cons pe_int pa_nil))))
      (pss_one (ps_expr (pe_bm PySem.F.plainAttrs_list PySem.F.slot_list_append PySem.F.type_list_append mt_append (pv 3) (pa_cons (pe_ifExp (pt_cmpR (op_uEq hr.units) (pv 5) pe_int (nomark _)) (pe_s [32] (by decide +kernel)) (pe_ifExp (pt_cmpR (op_uEq hr.units) (pv 5) pe_int (nomark _)) (pe_ix ix_seq (pv 2) (pe_op op_uAdd pe_int (pe_dfn D_law_draw (hr.mono (by decide)) (by rfl) (pa_cons (pv 0) (pa_cons pe_int pa_nil)))) (fun _ _ => rfl)) (pe_ix ix_seq (pv 2) (pe_dfn D_law_draw (hr.mono (by decide)) (by rfl) (pa_cons (pv 0) (pa_cons (pe_callB call_uLen (by rfl) T.b_len bt_len (pa_cons (pv 2) pa_nil)) pa_nil))) (fun _ _ => rfl)))) pa_nil))))))
      (pss_one (ps_ret (pe_bm PySem.F.plainAttrs_str PySem.F.slot_str_join PySem.F.type_str_join mt_uJoin (pe_s [] (by decide +kernel)) (pa_cons (pv 3) pa_nil))))))), ?_⟩
  try dsimp only [cxOf, Cx.nox, Cx.wish]
  show (_ : TS) _ [some _, some _, none, none, none, none] _
  o_readsAll
  refine c_signs fun H1 e1 => ?_
  o_readsAll
  rename_i l H2 hl e2 h2 _ _
  refine c_draw (by omega) (by omega) (hs.same (e1.trans e2)) fun r H3 r0 r1 s3 o3 => ?_
  have nal : a ≠ l := (hs.same e1).ne hl
  o_readsAll
  refine f_rng (fun i σ' H' => ∃ acc x y, σ' = [some (.ref a), some (.int m), some (.str (S sgn)), some (.ref l), x, y] ∧ acc.length = i ∧ (∀ c ∈ acc, 32 ≤ c ∧ c ≤ 126) ∧ H' l = some (.lst (acc.map fun c => .str (S [c]))) ∧ Stk H' a ∧ Off a H H')
    ⟨[], _, _, rfl, rfl, by simp, o3 _ _ nal.symm h2, s3, Eg.Same.off (e1.trans e2) o3⟩ ?_ ?_
  · rintro i σ' H4 hi ⟨acc, x, y, rfl, ha, hc, h4, s4, o4⟩
    o_readsAll
    refine c_draw (by omega) (by omega) s4 fun kd H5 k0 k1 s5 o5 => ?_
    have h5 := o5 _ _ nal.symm h4
    o_readsAll
    have fin : ∀ c H', 32 ≤ c → c ≤ 126 → Stk H' a → H' l = some (.lst (acc.map fun c => .str (S [c]))) → Off a H H' → ∃ (acc' : List Nat) (x' y' : Option V), ([some (V.ref a), some (.int m), some (.str (S sgn)), some (.ref l), x, y].set 4 (some (.int (0 + i)))).set 5 (some (.int kd)) = [some (.ref a), some (.int m), some (.str (S sgn)), some (.ref l), x', y'] ∧ acc'.length = i + 1 ∧ (∀ c ∈ acc', 32 ≤ c ∧ c ≤ 126) ∧ (upd H' l (.lst ((acc.map fun c => V.str (S [c])) ++ [V.str (S [c])]))) l = some (.lst (acc'.map fun c => .str (S [c]))) ∧ Stk (upd H' l (.lst ((acc.map fun c => V.str (S [c])) ++ [V.str (S [c])]))) a ∧ Off a H (upd H' l (.lst ((acc.map fun c => V.str (S [c])) ++ [V.str (S [c])]))) := fun c H' c0 c1 s6 h6 o6 => by
      refine ⟨acc ++ [c], _, _, rfl, by simp [ha], fun d hd => ?_, by rw [upd_same, List.map_append]; rfl, ?_, fun b u hb q => ?_⟩
      · rcases List.mem_append.mp hd with h | h
        · exact hc d h
        · rw [List.mem_singleton.mp h]; exact ⟨c0, c1⟩
      · obtain ⟨p, q, t, z⟩ := s6
        exact ⟨p, q, t, by rw [upd_ne nal]; exact z⟩
      · rw [upd_ne (ne_of_none ((e1) _ _ q) hl)]
        exact o6 b u hb q
    refine jnE (fun x H' => ∃ c, x = .str (S [c]) ∧ 32 ≤ c ∧ c ≤ 126 ∧ Stk H' a ∧ H' l = some (.lst (acc.map fun c => .str (S [c]))) ∧ Off a H H') ?_ (fun Q' hQ => br (fun hk => ?_) (fun hk => ?_))
    · rintro x H6 ⟨c, rfl, c0, c1, s6, h6, o6⟩
      have hr : acc.length < 2000 := by omega
      o_readsAll
      exact fin c H6 c0 c1 s6 h6 o6
    · o_readsAll
      exact hQ _ _ ⟨32, rfl, by decide, by decide, s5, h5, o4.trans o5⟩
    · o_readsAll
      refine br (fun hk2 => ?_) (fun hk2 => ?_)
      · o_readsAll
        refine c_draw (by omega) (by omega) s5 fun d H6 d0 d1 s6 o6 => ?_
        obtain ⟨c, hc1, c0, c1⟩ := sgn_at (16 + d.toNat) (by omega)
        o_readsAll
        refine g_ixS (by rw [S_len]; decide) (at_ofN (j := 16 + d.toNat) (by omega) hc1) ?_
        exact hQ _ _ ⟨c, rfl, c0, c1, s6, o6 _ _ nal.symm h5, (o4.trans o5).trans o6⟩
      · o_readsAll
        refine c_draw (by rw [S_len]; decide) (by rw [S_len]; decide) s5 fun d H6 d0 d1 s6 o6 => ?_
        rw [S_len, show (sgn.length : Int) = 94 from rfl] at d1
        obtain ⟨c, hc1, c0, c1⟩ := sgn_at d.toNat (by omega)
        o_readsAll
        refine g_ixS (by rw [S_len]; decide) (at_ofN (j := d.toNat) (by omega) hc1) ?_
        exact hQ _ _ ⟨c, rfl, c0, c1, s6, o6 _ _ nal.symm h5, (o4.trans o5).trans o6⟩
  · rintro σ' H4 ⟨acc, x, y, rfl, ha, hc, h4, s4, o4⟩
    have hal : (acc.length : Int) ≤ m := by omega
    have h4' : H4 l = some (.lst ((acc.map fun c => S [c]).map V.str)) := by rw [List.map_map]; exact h4
    o_readsAll
    refine g_join (.of h4') ?_ ?_
    · rw [List.map_map, List.length_map, S_len, List.length_nil, Nat.mul_zero]
      rw [show ((fun x : Str => x.length) ∘ fun c => S [c]) = fun _ => 1 from rfl, sum1]
      omega
    · rw [show (acc.map fun c => S [c]) = (acc.map fun c => [c]).map S by rw [List.map_map]; rfl, join_S, joinL_nil, flat1 acc]
      exact k _ _ hal (okW_of (by omega) hc) s4 o4
end
end L04

namespace L04
open SX Sp Lg TL
section
variable {P : Program} {w : World} {K : PySem.W.Frag} {mg : Str → Option Value} {base : Heap} {Z : Ad}
def sp_done (K : PySem.W.Frag) : Sp := fun vs H Q _ => ∃ (a p : Addr) (l : Fl) (it : Itm), vs = [.ref a, .ref p] ∧ H a = some (.dK (fk l)) ∧ SqT K H p it.vals ∧ l.length < 1000 ∧ Bd 10000000 l ∧ it.sz ≤ 5000000 ∧ ∀ H', Off a H H' → H' a = some (.dK (fk (doIt l it))) → Q .non H'
theorem c_done {a p : Addr} {l : Fl} {it : Itm} {H : Hp} {Q : VK} {E : XK} (h : H a = some (.dK (fk l))) (ht : SqT K H p it.vals) (hl : l.length < 1000) (hb : Bd 10000000 l) (hz : it.sz ≤ 5000000) (k : ∀ H', Off a H H' → H' a = some (.dK (fk (doIt l it))) → Q .non H') : sp_done K [.ref a, .ref p] H Q E := ⟨a, p, l, it, rfl, h, ht, hl, hb, hz, k⟩
theorem d_done_to (T : Txt K w mg Z) : Dfn P w K mg base 1 "done_to" ["files", "item"] (sp_done K) := by
  obtain ⟨f, fd, F, hm, hb⟩ := T.f_done_to
  refine ⟨f, fd, F.ok sc_done_to (fun vs H Q E h => by first | (obtain ⟨rfl, _⟩ := h; rfl) | (obtain ⟨_, rfl, _⟩ := h; rfl) | (obtain ⟨_, _, rfl, _⟩ := h; rfl) | (obtain ⟨_, _, _, rfl, _⟩ := h; rfl) | (obtain ⟨_, _, _, _, rfl, _⟩ := h; rfl) | (obtain ⟨_, _, _, _, _, rfl, _⟩ := h; rfl) | (obtain ⟨_, _, _, _, _, _, rfl, _⟩ := h; rfl) | (obtain ⟨_, _, _, _, _, _, _, rfl, _⟩ := h; rfl) | (obtain ⟨_, _, _, _, _, _, _, _, rfl, _⟩ := h; rfl) | (obtain ⟨_, _, _, _, _, _, _, _, _, rfl, _⟩ := h; rfl) | (obtain ⟨_, _, _, _, _, _, _, _, _, _, rfl, _⟩ := h; rfl) | (obtain ⟨_, _, _, _, _, _, _, _, _, _, _, rfl, _⟩ := h; rfl) | (obtain ⟨_, _, _, _, _, _, _, _, _, _, _, _, rfl, _⟩ := h; rfl) | (obtain ⟨_, _, _, _, _, _, _, _, _, _, _, _, _, rfl, _⟩ := h; rfl) | (obtain ⟨_, _, _, _, _, _, _, _, _, _, _, _, _, _, rfl, _⟩ := h; rfl) | (obtain ⟨_, _, _, _, _, _, _, _, _, _, _, _, _, _, _, rfl, _⟩ := h; rfl) | (obtain ⟨_, _, _, _, _, _, _, _, _, _, _, _, _, _, _, _, rfl, _⟩ := h; rfl)) (fun cdv A outer s H vs Q E hr h => ?_), hm, F.kp, hb⟩
  obtain ⟨a, p, l, it, rfl, ha, ht, hl, hb, hz, k⟩ := h
  refine ⟨_, (pss_cons (ps_asg (pv 1) (pg_tup (by rfl) (pgs_cons (pg_name (i := 2) sc_done_to.nd rfl (.inl rfl)) (pgs_cons (pg_name (i := 3) sc_done_to.nd rfl (.inl rfl)) (pgs_cons (pg_name (i := 4) sc_done_to.nd rfl (.inl rfl)) pgs_nil)))))
      (pss_cons (ps_set (i := 5) sc_done_to.nd rfl (.inl rfl) (pe_dget2 (hu_of hr) (pv 0) (pv 3) (pe_s [] (by decide +kernel)) ⟨rfl, rfl, rfl, rfl⟩))
      (pss_one (ps_dput (hu_of hr) (pv 0) (pv 3) (pe_ifExp (pt_cmpR (op_uEq hr.units) (pv 2) pe_str (nomark _)) (pe_op op_uAdd (pv 5) (pv 4)) (pe_slice sl_u (pv 5) po_none (po_some (pv 4)))) rfl)))), ?_⟩
  try dsimp only [cxOf, Cx.nox, Cx.wish]
  show (_ : TS) _ [some _, some _, none, none, none, none] _
  cases it with
  | w f x =>
    have hg := hb f
    have hk : (fk l).length < sizeLine := by rw [fk_len, sizeLine_eq]; omega
    change x.length ≤ 5000000 at hz
    change SqT K H p [_, _, _] at ht
    o_readsAll
    refine brT (by simp) ?_
    o_readsAll
    rw [fk_get]
    o_readsAll
    rw [S_cat]
    o_readsAll
    exact k _ (off_refl _ _).upd (by rw [upd_same, fk_put]; rfl)
  | t f n =>
    have hg := hb f
    have hk : (fk l).length < sizeLine := by rw [fk_len, sizeLine_eq]; omega
    change SqT K H p [_, _, _] at ht
    o_readsAll
    refine brF (by decide +kernel) ?_
    o_readsAll
    rw [fk_get]
    o_readsAll
    rw [cut_to]
    o_readsAll
    exact k _ (off_refl _ _).upd (by rw [upd_same, fk_put]; rfl)
def sp_items (K : PySem.W.Frag) : Sp := fun vs H Q _ => ∃ (p : Addr) (it : Itm), vs = [.ref p] ∧ SqT K H p it.vals ∧ it.sz ≤ 5000000 ∧ Q (.int (it.many : Int)) H
theorem d_items_in (T : Txt K w mg Z) : Dfn P w K mg base 1 "items_in" ["item"] (sp_items K) := by
  obtain ⟨f, fd, F, hm, hb⟩ := T.f_items_in
  refine ⟨f, fd, F.ok sc_items_in (fun vs H Q E h => by first | (obtain ⟨rfl, _⟩ := h; rfl) | (obtain ⟨_, rfl, _⟩ := h; rfl) | (obtain ⟨_, _, rfl, _⟩ := h; rfl) | (obtain ⟨_, _, _, rfl, _⟩ := h; rfl) | (obtain ⟨_, _, _, _, rfl, _⟩ := h; rfl) | (obtain ⟨_, _, _, _, _, rfl, _⟩ := h; rfl) | (obtain ⟨_, _, _, _, _, _, rfl, _⟩ := h; rfl) | (obtain ⟨_, _, _, _, _, _, _, rfl, _⟩ := h; rfl) | (obtain ⟨_, _, _, _, _, _, _, _, rfl, _⟩ := h; rfl) | (obtain ⟨_, _, _, _, _, _, _, _, _, rfl, _⟩ := h; rfl) | (obtain ⟨_, _, _, _, _, _, _, _, _, _, rfl, _⟩ := h; rfl) | (obtain ⟨_, _, _, _, _, _, _, _, _, _, _, rfl, _⟩ := h; rfl) | (obtain ⟨_, _, _, _, _, _, _, _, _, _, _, _, rfl, _⟩ := h; rfl) | (obtain ⟨_, _, _, _, _, _, _, _, _, _, _, _, _, rfl, _⟩ := h; rfl) | (obtain ⟨_, _, _, _, _, _, _, _, _, _, _, _, _, _, rfl, _⟩ := h; rfl) | (obtain ⟨_, _, _, _, _, _, _, _, _, _, _, _, _, _, _, rfl, _⟩ := h; rfl) | (obtain ⟨_, _, _, _, _, _, _, _, _, _, _, _, _, _, _, _, rfl, _⟩ := h; rfl)) (fun cdv A outer s H vs Q E hr h => ?_), hm, F.kp, hb⟩
  obtain ⟨p, it, rfl, ht, hz, k⟩ := h
  refine ⟨_, (pss_one (ps_ret (pe_ifExp (pt_cmpR (op_uEq hr.units) (pe_ix ix_seq (pv 0) pe_int (fun _ _ => rfl)) pe_str (nomark _)) (pe_callB call_uLen (by rfl) T.b_len bt_len (pa_cons (pe_ix ix_seq (pv 0) pe_int (fun _ _ => rfl)) pa_nil)) pe_int))), ?_⟩
  try dsimp only [cxOf, Cx.nox, Cx.wish]
  show (_ : TS) _ [some _] _
  cases it with
  | w f x =>
    change x.length ≤ 5000000 at hz
    change SqT K H p [_, _, _] at ht
    o_readsAll
    refine brT (by simp) ?_
    o_readsAll
    exact k
  | t f n =>
    change SqT K H p [_, _, _] at ht
    o_readsAll
    refine brF (by decide +kernel) ?_
    o_readsAll
    exact k
end
end L04

namespace L04
open SX Sp Lg TL
section
variable {P : Program} {w : World} {K : PySem.W.Frag} {mg : Str → Option Value} {base : Heap} {Z : Ad}
def sp_dinit (C : Addr) : Sp := fun vs H Q _ => ∃ (x dx : Addr), vs = [.ref x, .non] ∧ H x = some (.ins C dx []) ∧ ∀ H' d1 d2 wl, Off x H H' → H d1 = none → H d2 = none → H wl = none → DiskAt C H' ⟨x, dx, d1, d2, wl, [], [], []⟩ → Q .non H'
theorem d_Disk_init (T : Txt K w mg Z) : Ini P w K mg base 1 "Disk" Z.a_Disk ["self", "power"] (sp_dinit Z.a_Disk) := by
  obtain ⟨f, fd, F, hM, hm, hb⟩ := T.f_Disk_init
  refine ⟨f, fd, F.ok sc_Disk_init (fun vs H Q E h => by first | (obtain ⟨rfl, _⟩ := h; rfl) | (obtain ⟨_, rfl, _⟩ := h; rfl) | (obtain ⟨_, _, rfl, _⟩ := h; rfl) | (obtain ⟨_, _, _, rfl, _⟩ := h; rfl) | (obtain ⟨_, _, _, _, rfl, _⟩ := h; rfl) | (obtain ⟨_, _, _, _, _, rfl, _⟩ := h; rfl) | (obtain ⟨_, _, _, _, _, _, rfl, _⟩ := h; rfl) | (obtain ⟨_, _, _, _, _, _, _, rfl, _⟩ := h; rfl) | (obtain ⟨_, _, _, _, _, _, _, _, rfl, _⟩ := h; rfl) | (obtain ⟨_, _, _, _, _, _, _, _, _, rfl, _⟩ := h; rfl) | (obtain ⟨_, _, _, _, _, _, _, _, _, _, rfl, _⟩ := h; rfl) | (obtain ⟨_, _, _, _, _, _, _, _, _, _, _, rfl, _⟩ := h; rfl) | (obtain ⟨_, _, _, _, _, _, _, _, _, _, _, _, rfl, _⟩ := h; rfl) | (obtain ⟨_, _, _, _, _, _, _, _, _, _, _, _, _, rfl, _⟩ := h; rfl) | (obtain ⟨_, _, _, _, _, _, _, _, _, _, _, _, _, _, rfl, _⟩ := h; rfl) | (obtain ⟨_, _, _, _, _, _, _, _, _, _, _, _, _, _, _, rfl, _⟩ := h; rfl) | (obtain ⟨_, _, _, _, _, _, _, _, _, _, _, _, _, _, _, _, rfl, _⟩ := h; rfl)) (fun cdv A outer s H vs Q E hr h => ?_), hM, hm, hb⟩
  obtain ⟨x, dx, rfl, hx, k⟩ := h
  have l_Disk := T.l_Disk
  have n_Disk_power_now := T.n_Disk_power_now
  have n_Disk_files_now := T.n_Disk_files_now
  have n_Disk_files_kept := T.n_Disk_files_kept
  have n_Disk_waiting_list := T.n_Disk_waiting_list
  refine ⟨_, (pss_cons (ps_fld (pv 0) (pv 1) rfl)
      (pss_cons (ps_fld (pv 0) pe_dnewK rfl)
      (pss_cons (ps_fld (pv 0) pe_dnewK rfl)
      (pss_one (ps_fld (pv 0) (pe_lst pa_nil) rfl))))), ?_⟩
  try dsimp only [cxOf, Cx.nox, Cx.wish]
  show (_ : TS) _ [some _, some _] _
  o_readsAll
  rename_i p1 H1 hp1 e1 h1 _ _ p2 H2 hp2 e2 h2 p3 H3 hp3 e3 h3
  have f1 := upd_none hp1
  have f2 := upd_none (e1.free (upd_none hp2))
  have f3 := upd_none (e1.free (upd_none (e2.free (upd_none hp3))))
  have n1 : p1 ≠ x := (ne_of_none upd_same hp1).symm
  have n2 : p2 ≠ x := (ne_of_none upd_same hp2).symm
  have n3 : p3 ≠ x := (ne_of_none upd_same hp3).symm
  have n12 : p1 ≠ p2 := ne_of_none h1 (upd_none hp2)
  refine k _ p1 p2 p3 (((((off_refl _ _).upd.same e1).upd.same e2).upd.same e3).upd) f1 f2 f3 ⟨upd_same, ?_, ?_, ?_, (fun _ h => nomatch h), (fun _ h => nomatch h), n12, Nat.zero_le _, rfl, fun i => ?_⟩
  · show _ = some (HO.dK [])
    o_shape
  · show _ = some (HO.dK [])
    o_shape
  · show _ = some (HO.lst [])
    o_shape
  · show OkF ((List.take i []).foldl doIt [])
    rw [List.take_nil]
    exact OkF.nil
  done
def sp_spend (C : Addr) : Sp := fun vs H Q _ => ∃ (x dx : Addr) (fs : List (Str × V)), vs = [.ref x] ∧ H x = some (.ins C dx (("power_now", .non) :: fs)) ∧ Q .non H
theorem d_Disk_spend (T : Txt K w mg Z) : Mth P w K mg base 1 Z.a_Disk "spend" ["self"] (sp_spend Z.a_Disk) := by
  obtain ⟨f, fd, F, hm, hb⟩ := T.f_Disk_spend
  refine ⟨⟨f, fd, F.ok sc_Disk_spend (fun vs H Q E h => by first | (obtain ⟨rfl, _⟩ := h; rfl) | (obtain ⟨_, rfl, _⟩ := h; rfl) | (obtain ⟨_, _, rfl, _⟩ := h; rfl) | (obtain ⟨_, _, _, rfl, _⟩ := h; rfl) | (obtain ⟨_, _, _, _, rfl, _⟩ := h; rfl) | (obtain ⟨_, _, _, _, _, rfl, _⟩ := h; rfl) | (obtain ⟨_, _, _, _, _, _, rfl, _⟩ := h; rfl) | (obtain ⟨_, _, _, _, _, _, _, rfl, _⟩ := h; rfl) | (obtain ⟨_, _, _, _, _, _, _, _, rfl, _⟩ := h; rfl) | (obtain ⟨_, _, _, _, _, _, _, _, _, rfl, _⟩ := h; rfl) | (obtain ⟨_, _, _, _, _, _, _, _, _, _, rfl, _⟩ := h; rfl) | (obtain ⟨_, _, _, _, _, _, _, _, _, _, _, rfl, _⟩ := h; rfl) | (obtain ⟨_, _, _, _, _, _, _, _, _, _, _, _, rfl, _⟩ := h; rfl) | (obtain ⟨_, _, _, _, _, _, _, _, _, _, _, _, _, rfl, _⟩ := h; rfl) | (obtain ⟨_, _, _, _, _, _, _, _, _, _, _, _, _, _, rfl, _⟩ := h; rfl) | (obtain ⟨_, _, _, _, _, _, _, _, _, _, _, _, _, _, _, rfl, _⟩ := h; rfl) | (obtain ⟨_, _, _, _, _, _, _, _, _, _, _, _, _, _, _, _, rfl, _⟩ := h; rfl)) (fun cdv A outer s H vs Q E hr h => ?_), hm, hb⟩, T.l_Disk⟩
  obtain ⟨x, dx, fs, rfl, hx, k⟩ := h
  have l_Disk := T.l_Disk
  have n_Disk_power_now := T.n_Disk_power_now
  refine ⟨_, (pss_one (ps_if (pt_cmpR op_uNotN (pe_fld (pv 0) rfl) pe_non (nomark _)) (pss_cons (ps_if (pt_cmpR op_lt (pe_fld (pv 0) rfl) pe_int (nomark _)) (pss_one ps_never) pss_nil)
      (pss_one (ps_fldaug (pv 0) pe_int in_sub))) pss_nil)), ?_⟩
  try dsimp only [cxOf, Cx.nox, Cx.wish]
  show (_ : TS) _ [some _] _
  o_readsAll
def sp_carry (K : PySem.W.Frag) (C : Addr) : Sp := fun vs H Q _ => ∃ (D : Dk) (p : Addr) (it : Itm), vs = [.ref D.d, .ref p] ∧ DiskAt C H D ∧ H p = some (.tup it.vals) ∧ it.sz ≤ 5000000 ∧ OkF (doIt D.now it) ∧ D.wt.length < 100000 ∧ ∀ H', Offs [D.d1, D.wl] H H' → DiskAt C H' { D with now := doIt D.now it, wt := D.wt ++ [(p, it)] } → Q .non H'
theorem d_Disk_carry (T : Txt K w mg Z) : Mth P w K mg base 2 Z.a_Disk "carry" ["self", "item"] (sp_carry K Z.a_Disk) := by
  obtain ⟨f, fd, F, hm, hb⟩ := T.f_Disk_carry
  refine ⟨⟨f, fd, F.ok sc_Disk_carry (fun vs H Q E h => by first | (obtain ⟨rfl, _⟩ := h; rfl) | (obtain ⟨_, rfl, _⟩ := h; rfl) | (obtain ⟨_, _, rfl, _⟩ := h; rfl) | (obtain ⟨_, _, _, rfl, _⟩ := h; rfl) | (obtain ⟨_, _, _, _, rfl, _⟩ := h; rfl) | (obtain ⟨_, _, _, _, _, rfl, _⟩ := h; rfl) | (obtain ⟨_, _, _, _, _, _, rfl, _⟩ := h; rfl) | (obtain ⟨_, _, _, _, _, _, _, rfl, _⟩ := h; rfl) | (obtain ⟨_, _, _, _, _, _, _, _, rfl, _⟩ := h; rfl) | (obtain ⟨_, _, _, _, _, _, _, _, _, rfl, _⟩ := h; rfl) | (obtain ⟨_, _, _, _, _, _, _, _, _, _, rfl, _⟩ := h; rfl) | (obtain ⟨_, _, _, _, _, _, _, _, _, _, _, rfl, _⟩ := h; rfl) | (obtain ⟨_, _, _, _, _, _, _, _, _, _, _, _, rfl, _⟩ := h; rfl) | (obtain ⟨_, _, _, _, _, _, _, _, _, _, _, _, _, rfl, _⟩ := h; rfl) | (obtain ⟨_, _, _, _, _, _, _, _, _, _, _, _, _, _, rfl, _⟩ := h; rfl) | (obtain ⟨_, _, _, _, _, _, _, _, _, _, _, _, _, _, _, rfl, _⟩ := h; rfl) | (obtain ⟨_, _, _, _, _, _, _, _, _, _, _, _, _, _, _, _, rfl, _⟩ := h; rfl)) (fun cdv A outer s H vs Q E hr h => ?_), hm, hb⟩, T.l_Disk⟩
  obtain ⟨⟨d, dx, d1, d2, wl, now, kept, wt⟩, p, it, rfl, hD, hp, hz, hok, hl, k⟩ := h
  have h0' := hD.okN
  obtain ⟨hd, h1, h2, hw, ht, hs, ne, lw, iv, ok⟩ := hD
  dsimp only at hd h1 h2 hw ht hs ne lw iv ok hok hl k
  have D_done_to := d_done_to (P := P) (base := base) T
  have l_Disk := T.l_Disk
  have n_Disk_files_now := T.n_Disk_files_now
  have n_Disk_waiting_list := T.n_Disk_waiting_list
  refine ⟨_, (pss_cons (ps_expr (pe_dfn D_done_to (hr.mono (by decide)) (by rfl) (pa_cons (pe_fld (pv 0) rfl) (pa_cons (pv 1) pa_nil))))
      (pss_one (ps_expr (pe_bm PySem.F.plainAttrs_list PySem.F.slot_list_append PySem.F.type_list_append mt_append (pe_fld (pv 0) rfl) (pa_cons (pv 1) pa_nil))))), ?_⟩
  try dsimp only [cxOf, Cx.nox, Cx.wish]
  show (_ : TS) _ [some _, some _] _
  o_readsAll
  refine c_done h1 (.of hp) h0'.2.1 h0'.2.2 hz fun H1 o1 a1 => ?_
  have hw1 := o1 _ _ (show wl ≠ d1 from ne_of hw h1 (by intro z; cases z)) hw
  have hc : (wt.map fun p => V.ref p.1).length < sizeLine := by rw [List.length_map, sizeLine_eq]; omega
  o_readsAll
  have hn : ∀ p ∈ wt, p.1 ≠ d1 := fun p hp => ne_of (ht p hp) h1 (by intro z; cases z)
  have hn2 : ∀ p ∈ wt, p.1 ≠ wl := fun p hp => ne_of (ht p hp) hw (by intro z; cases z)
  have g1 : d ≠ wl := ne_of hd hw (by intro z; cases z)
  have g2 : d ≠ d1 := ne_of hd h1 (by intro z; cases z)
  have g3 : d1 ≠ wl := ne_of h1 hw (by intro z; cases z)
  have g4 : d2 ≠ wl := ne_of h2 hw (by intro z; cases z)
  have g5 : p ≠ wl := ne_of hp hw (by intro z; cases z)
  have g6 : p ≠ d1 := ne_of hp h1 (by intro z; cases z)
  refine k _ (((Offs.refl _ _).off (by simp) o1).put (by simp)) ⟨?_, ?_, ?_, ?_, fun q hq => ?_, fun q hq => ?_, ne, ?_, ?_, fun i => ?_⟩
  · dsimp only; rw [upd_ne g1]; exact o1 _ _ g2 hd
  · dsimp only; rw [upd_ne g3]; exact a1
  · dsimp only; rw [upd_ne g4]; exact o1 _ _ ne.symm h2
  · dsimp only; rw [upd_same, List.map_append]; rfl
  · rcases List.mem_append.mp hq with m | m
    · rw [upd_ne (hn2 q m)]; exact o1 _ _ (hn q m) (ht q m)
    · rw [List.mem_singleton.mp m]
      show upd H1 wl _ p = _
      rw [upd_ne g5]; exact o1 _ _ g6 hp
  · rcases List.mem_append.mp hq with m | m
    · exact hs q m
    · rw [List.mem_singleton.mp m]; exact hz
  · show (wt ++ [(p, it)]).length ≤ 100000
    rw [List.length_append, List.length_singleton]; omega
  · show doIt now it = ((wt ++ [(p, it)]).map (·.2)).foldl doIt kept
    rw [List.map_append, List.foldl_append, show now = (wt.map (·.2)).foldl doIt kept from iv]
    rfl
  · show OkF ((((wt ++ [(p, it)]).map (·.2)).take i).foldl doIt kept)
    rw [List.map_append]
    by_cases hi : i ≤ (wt.map (·.2)).length
    · rw [List.take_append_of_le_length hi]
      exact ok i
    · rw [List.take_of_length_le (by rw [List.length_append]; show _ + 1 ≤ i; omega), List.foldl_append, ← show now = (wt.map (·.2)).foldl doIt kept from iv]
      exact hok
def sp_read (C : Addr) : Sp := fun vs H Q _ => ∃ (D : Dk) (f : Str), vs = [.ref D.d, .str f] ∧ DiskAt C H D ∧ Q (.str (S (gt D.now f))) H
theorem d_Disk_read (T : Txt K w mg Z) : Mth P w K mg base 1 Z.a_Disk "read" ["self", "file"] (sp_read Z.a_Disk) := by
  obtain ⟨f, fd, F, hm, hb⟩ := T.f_Disk_read
  refine ⟨⟨f, fd, F.ok sc_Disk_read (fun vs H Q E h => by first | (obtain ⟨rfl, _⟩ := h; rfl) | (obtain ⟨_, rfl, _⟩ := h; rfl) | (obtain ⟨_, _, rfl, _⟩ := h; rfl) | (obtain ⟨_, _, _, rfl, _⟩ := h; rfl) | (obtain ⟨_, _, _, _, rfl, _⟩ := h; rfl) | (obtain ⟨_, _, _, _, _, rfl, _⟩ := h; rfl) | (obtain ⟨_, _, _, _, _, _, rfl, _⟩ := h; rfl) | (obtain ⟨_, _, _, _, _, _, _, rfl, _⟩ := h; rfl) | (obtain ⟨_, _, _, _, _, _, _, _, rfl, _⟩ := h; rfl) | (obtain ⟨_, _, _, _, _, _, _, _, _, rfl, _⟩ := h; rfl) | (obtain ⟨_, _, _, _, _, _, _, _, _, _, rfl, _⟩ := h; rfl) | (obtain ⟨_, _, _, _, _, _, _, _, _, _, _, rfl, _⟩ := h; rfl) | (obtain ⟨_, _, _, _, _, _, _, _, _, _, _, _, rfl, _⟩ := h; rfl) | (obtain ⟨_, _, _, _, _, _, _, _, _, _, _, _, _, rfl, _⟩ := h; rfl) | (obtain ⟨_, _, _, _, _, _, _, _, _, _, _, _, _, _, rfl, _⟩ := h; rfl) | (obtain ⟨_, _, _, _, _, _, _, _, _, _, _, _, _, _, _, rfl, _⟩ := h; rfl) | (obtain ⟨_, _, _, _, _, _, _, _, _, _, _, _, _, _, _, _, rfl, _⟩ := h; rfl)) (fun cdv A outer s H vs Q E hr h => ?_), hm, hb⟩, T.l_Disk⟩
  obtain ⟨⟨d, dx, d1, d2, wl, now, kept, wt⟩, f, rfl, ⟨hd, h1, h2, hw, ht, hs, ne, lw, iv, ok⟩, k⟩ := h
  dsimp only at hd h1 h2 hw ht hs ne lw iv ok k
  have l_Disk := T.l_Disk
  have n_Disk_files_now := T.n_Disk_files_now
  refine ⟨_, (pss_one (ps_ret (pe_dget2 (hu_of hr) (pe_fld (pv 0) rfl) (pv 1) (pe_s [] (by decide +kernel)) ⟨rfl, rfl, rfl, rfl⟩))), ?_⟩
  try dsimp only [cxOf, Cx.nox, Cx.wish]
  show (_ : TS) _ [some _, some _] _
  o_readsAll
  rw [fk_get]
  exact k
end
end L04

namespace L04
open SX Sp Lg TL
section
variable {P : Program} {w : World} {K : PySem.W.Frag} {mg : Str → Option Value} {base : Heap} {Z : Ad}
theorem c_spend {C x dx : Addr} {fs : List (Str × V)} {H : Hp} {Q : VK} {E : XK} (h : H x = some (.ins C dx (("power_now", .non) :: fs))) (k : Q .non H) : sp_spend C [.ref x] H Q E := ⟨x, dx, fs, rfl, h, k⟩
theorem c_carry {C p : Addr} {D : Dk} {it : Itm} {H : Hp} {Q : VK} {E : XK} (hD : DiskAt C H D) (hp : H p = some (.tup it.vals)) (hz : it.sz ≤ 5000000) (ho : OkF (doIt D.now it)) (hl : D.wt.length < 100000) (k : ∀ H', Offs [D.d1, D.wl] H H' → DiskAt C H' { D with now := doIt D.now it, wt := D.wt ++ [(p, it)] } → Q .non H') : sp_carry K C [.ref D.d, .ref p] H Q E := ⟨D, p, it, rfl, hD, hp, hz, ho, hl, k⟩
theorem c_read {C : Addr} {D : Dk} {f : Str} {H : Hp} {Q : VK} {E : XK} (hD : DiskAt C H D) (k : Q (.str (S (gt D.now f))) H) : sp_read C [.ref D.d, .str f] H Q E := ⟨D, f, rfl, hD, k⟩
def sp_write (C : Addr) : Sp := fun vs H Q _ => ∃ (D : Dk) (f : Str) (x : List Nat), vs = [.ref D.d, .str f, .str (S x)] ∧ DiskAt C H D ∧ x ≠ [] ∧ x.length ≤ 5000000 ∧ OkF (doIt D.now (.w f x)) ∧ D.wt.length < 100000 ∧ ∀ H' p, H p = none → Offs [D.d1, D.wl] H H' → DiskAt C H' { D with now := doIt D.now (.w f x), wt := D.wt ++ [(p, .w f x)] } → Q .non H'
theorem d_Disk_write (T : Txt K w mg Z) : Mth P w K mg base 3 Z.a_Disk "write" ["self", "file", "text"] (sp_write Z.a_Disk) := by
  obtain ⟨f, fd, F, hm, hb⟩ := T.f_Disk_write
  refine ⟨⟨f, fd, F.ok sc_Disk_write (fun vs H Q E h => by first | (obtain ⟨rfl, _⟩ := h; rfl) | (obtain ⟨_, rfl, _⟩ := h; rfl) | (obtain ⟨_, _, rfl, _⟩ := h; rfl) | (obtain ⟨_, _, _, rfl, _⟩ := h; rfl) | (obtain ⟨_, _, _, _, rfl, _⟩ := h; rfl) | (obtain ⟨_, _, _, _, _, rfl, _⟩ := h; rfl) | (obtain ⟨_, _, _, _, _, _, rfl, _⟩ := h; rfl) | (obtain ⟨_, _, _, _, _, _, _, rfl, _⟩ := h; rfl) | (obtain ⟨_, _, _, _, _, _, _, _, rfl, _⟩ := h; rfl) | (obtain ⟨_, _, _, _, _, _, _, _, _, rfl, _⟩ := h; rfl) | (obtain ⟨_, _, _, _, _, _, _, _, _, _, rfl, _⟩ := h; rfl) | (obtain ⟨_, _, _, _, _, _, _, _, _, _, _, rfl, _⟩ := h; rfl) | (obtain ⟨_, _, _, _, _, _, _, _, _, _, _, _, rfl, _⟩ := h; rfl) | (obtain ⟨_, _, _, _, _, _, _, _, _, _, _, _, _, rfl, _⟩ := h; rfl) | (obtain ⟨_, _, _, _, _, _, _, _, _, _, _, _, _, _, rfl, _⟩ := h; rfl) | (obtain ⟨_, _, _, _, _, _, _, _, _, _, _, _, _, _, _, rfl, _⟩ := h; rfl) | (obtain ⟨_, _, _, _, _, _, _, _, _, _, _, _, _, _, _, _, rfl, _⟩ := h; rfl)) (fun cdv A outer s H vs Q E hr h => ?_), hm, hb⟩, T.l_Disk⟩
  obtain ⟨D, f, x, rfl, hD, hx, hl, hok, hw, k⟩ := h
  have hd := hD.hd
  have D_Disk_carry := d_Disk_carry (P := P) (base := base) T
  have l_Disk := T.l_Disk
  have n_Disk_power_now := T.n_Disk_power_now
  refine ⟨_, (pss_cons (ps_set (i := 3) sc_Disk_write.nd rfl (.inl rfl) (pe_callB call_uLen (by rfl) T.b_len bt_len (pa_cons (pv 2) pa_nil)))
      (pss_cons (ps_if (pt_cmpR op_uNotN (pe_fld (pv 0) rfl) pe_non (nomark _)) (pss_cons (ps_set (i := 3) sc_Disk_write.nd rfl (.inl rfl) (pe_callB (call_uMin2 rfl) (by rfl) T.b_min bt_min (pa_cons (pv 3) (pa_cons (pe_fld (pv 0) rfl) pa_nil))))
      (pss_one (ps_fldaug (pv 0) (pv 3) in_sub))) pss_nil)
      (pss_cons (ps_if (pt_cmpR op_gt (pv 3) pe_int (nomark _)) (pss_one (ps_expr (pe_mth D_Disk_carry (hr.mono (by decide)) (pv 0) (pa_cons (pe_tup (pa_cons pe_str (pa_cons (pv 1) (pa_cons (pe_slice sl_u (pv 2) po_none (po_some (pv 3))) pa_nil)))) pa_nil)))) pss_nil)
      (pss_one (ps_if (pt_cmpR op_lt (pv 3) (pe_callB call_uLen (by rfl) T.b_len bt_len (pa_cons (pv 2) pa_nil)) (nomark _)) (pss_one ps_never) pss_nil))))), ?_⟩
  try dsimp only [cxOf, Cx.nox, Cx.wish]
  show (_ : TS) _ [some _, some _, some _, none] _
  have hp : 0 < x.length := List.length_pos_iff.mpr hx
  o_readsAll
  rw [S_len]
  refine brT (decide_eq_true (by omega)) ?_
  o_readsAll
  rename_i p H1 hp1 e1 a1
  rw [cut_to, List.take_length] at a1
  refine c_carry (it := .w f x) (hD.same e1) a1 hl hok hw fun H2 o2 hD2 => ?_
  o_readsAll
  rw [S_len]
  refine brF (decide_eq_false (by omega)) ?_
  o_readsAll
  exact k _ p hp1 ((Eg.Same.offs e1).trans o2) hD2
def sp_trim (C : Addr) : Sp := fun vs H Q _ => ∃ (D : Dk) (f : Str) (n : Nat), vs = [.ref D.d, .str f, .int (n : Int)] ∧ DiskAt C H D ∧ OkF (doIt D.now (.t f n)) ∧ D.wt.length < 100000 ∧ ∀ H' p, H p = none → Offs [D.d1, D.wl] H H' → DiskAt C H' { D with now := doIt D.now (.t f n), wt := D.wt ++ [(p, .t f n)] } → Q .non H'
theorem d_Disk_trim (T : Txt K w mg Z) : Mth P w K mg base 3 Z.a_Disk "trim" ["self", "file", "signs"] (sp_trim Z.a_Disk) := by
  obtain ⟨f, fd, F, hm, hb⟩ := T.f_Disk_trim
  refine ⟨⟨f, fd, F.ok sc_Disk_trim (fun vs H Q E h => by first | (obtain ⟨rfl, _⟩ := h; rfl) | (obtain ⟨_, rfl, _⟩ := h; rfl) | (obtain ⟨_, _, rfl, _⟩ := h; rfl) | (obtain ⟨_, _, _, rfl, _⟩ := h; rfl) | (obtain ⟨_, _, _, _, rfl, _⟩ := h; rfl) | (obtain ⟨_, _, _, _, _, rfl, _⟩ := h; rfl) | (obtain ⟨_, _, _, _, _, _, rfl, _⟩ := h; rfl) | (obtain ⟨_, _, _, _, _, _, _, rfl, _⟩ := h; rfl) | (obtain ⟨_, _, _, _, _, _, _, _, rfl, _⟩ := h; rfl) | (obtain ⟨_, _, _, _, _, _, _, _, _, rfl, _⟩ := h; rfl) | (obtain ⟨_, _, _, _, _, _, _, _, _, _, rfl, _⟩ := h; rfl) | (obtain ⟨_, _, _, _, _, _, _, _, _, _, _, rfl, _⟩ := h; rfl) | (obtain ⟨_, _, _, _, _, _, _, _, _, _, _, _, rfl, _⟩ := h; rfl) | (obtain ⟨_, _, _, _, _, _, _, _, _, _, _, _, _, rfl, _⟩ := h; rfl) | (obtain ⟨_, _, _, _, _, _, _, _, _, _, _, _, _, _, rfl, _⟩ := h; rfl) | (obtain ⟨_, _, _, _, _, _, _, _, _, _, _, _, _, _, _, rfl, _⟩ := h; rfl) | (obtain ⟨_, _, _, _, _, _, _, _, _, _, _, _, _, _, _, _, rfl, _⟩ := h; rfl)) (fun cdv A outer s H vs Q E hr h => ?_), hm, hb⟩, T.l_Disk⟩
  obtain ⟨D, f, n, rfl, hD, hok, hw, k⟩ := h
  have hd := hD.hd
  have D_Disk_spend := d_Disk_spend (P := P) (base := base) T
  have D_Disk_carry := d_Disk_carry (P := P) (base := base) T
  refine ⟨_, (pss_cons (ps_expr (pe_mth0 D_Disk_spend (hr.mono (by decide)) (pv 0)))
      (pss_one (ps_expr (pe_mth D_Disk_carry (hr.mono (by decide)) (pv 0) (pa_cons (pe_tup (pa_cons pe_str (pa_cons (pv 1) (pa_cons (pv 2) pa_nil)))) pa_nil))))), ?_⟩
  try dsimp only [cxOf, Cx.nox, Cx.wish]
  show (_ : TS) _ [some _, some _, some _] _
  o_readsAll
  refine c_spend hd ?_
  o_readsAll
  rename_i _ _ p H1 hp1 e1 a1
  refine c_carry (it := .t f n) (hD.same e1) a1 (Nat.zero_le _) hok hw fun H2 o2 hD2 => ?_
  o_readsAll
  exact k _ p hp1 ((Eg.Same.offs e1).trans o2) hD2
def sp_sync (C : Addr) : Sp := fun vs H Q _ => ∃ (D : Dk), vs = [.ref D.d] ∧ DiskAt C H D ∧ ∀ H' wl', H wl' = none → Offs [D.d, D.d2] H H' → DiskAt C H' { D with kept := D.now, wl := wl', wt := [] } → Q .non H'
theorem d_Disk_sync (T : Txt K w mg Z) : Mth P w K mg base 2 Z.a_Disk "sync" ["self"] (sp_sync Z.a_Disk) := by
  obtain ⟨f, fd, F, hm, hb⟩ := T.f_Disk_sync
  refine ⟨⟨f, fd, F.ok sc_Disk_sync (fun vs H Q E h => by first | (obtain ⟨rfl, _⟩ := h; rfl) | (obtain ⟨_, rfl, _⟩ := h; rfl) | (obtain ⟨_, _, rfl, _⟩ := h; rfl) | (obtain ⟨_, _, _, rfl, _⟩ := h; rfl) | (obtain ⟨_, _, _, _, rfl, _⟩ := h; rfl) | (obtain ⟨_, _, _, _, _, rfl, _⟩ := h; rfl) | (obtain ⟨_, _, _, _, _, _, rfl, _⟩ := h; rfl) | (obtain ⟨_, _, _, _, _, _, _, rfl, _⟩ := h; rfl) | (obtain ⟨_, _, _, _, _, _, _, _, rfl, _⟩ := h; rfl) | (obtain ⟨_, _, _, _, _, _, _, _, _, rfl, _⟩ := h; rfl) | (obtain ⟨_, _, _, _, _, _, _, _, _, _, rfl, _⟩ := h; rfl) | (obtain ⟨_, _, _, _, _, _, _, _, _, _, _, rfl, _⟩ := h; rfl) | (obtain ⟨_, _, _, _, _, _, _, _, _, _, _, _, rfl, _⟩ := h; rfl) | (obtain ⟨_, _, _, _, _, _, _, _, _, _, _, _, _, rfl, _⟩ := h; rfl) | (obtain ⟨_, _, _, _, _, _, _, _, _, _, _, _, _, _, rfl, _⟩ := h; rfl) | (obtain ⟨_, _, _, _, _, _, _, _, _, _, _, _, _, _, _, rfl, _⟩ := h; rfl) | (obtain ⟨_, _, _, _, _, _, _, _, _, _, _, _, _, _, _, _, rfl, _⟩ := h; rfl)) (fun cdv A outer s H vs Q E hr h => ?_), hm, hb⟩, T.l_Disk⟩
  obtain ⟨D, rfl, hD, k⟩ := h
  have hd := hD.hd
  have D_Disk_spend := d_Disk_spend (P := P) (base := base) T
  have D_done_to := d_done_to (P := P) (base := base) T
  have l_Disk := T.l_Disk
  have n_Disk_files_kept := T.n_Disk_files_kept
  have n_Disk_waiting_list := T.n_Disk_waiting_list
  refine ⟨_, (pss_cons (ps_expr (pe_mth0 D_Disk_spend (hr.mono (by decide)) (pv 0)))
      (pss_cons (ps_for PassesOwn.never rfl (pi_list (pe_fld (pv 0) rfl)) (pg_name (i := 1) sc_Disk_sync.nd rfl (.inl rfl))
        (pss_one (ps_expr (pe_dfn D_done_to (hr.mono (by decide)) (by rfl) (pa_cons (pe_fld (pv 0) rfl) (pa_cons (pv 1) pa_nil))))))
      (pss_one (ps_fld (pv 0) (pe_lst pa_nil) rfl)))), ?_⟩
  try dsimp only [cxOf, Cx.nox, Cx.wish]
  show (_ : TS) _ [some _, none] _
  obtain ⟨d, dx, d1, d2, wl, now, kept, wt⟩ := D
  obtain ⟨hd, h1, h2, hw, ht, hs, ne, lw, iv, ok⟩ := hD
  dsimp only at hd h1 h2 hw ht hs ne lw iv ok k
  have iv' : now = (wt.map (·.2)).foldl doIt kept := iv
  have ok' : ∀ i, OkF (((wt.map (·.2)).take i).foldl doIt kept) := ok
  have m1 : d ≠ d2 := ne_of hd h2 (by intro z; cases z)
  have m2 : wl ≠ d2 := ne_of hw h2 (by intro z; cases z)
  have m3 : ∀ p ∈ wt, p.1 ≠ d2 := fun p hp => ne_of (ht p hp) h2 (by intro z; cases z)
  o_readsAll
  refine c_spend hd ?_
  o_readsAll
  refine f_lst (fun i σ' H' => ∃ a, σ' = [some (.ref d), a] ∧ Off d2 H H' ∧ H' d2 = some (.dK (fk (((wt.map (·.2)).take i).foldl doIt kept)))) ⟨_, rfl, off_refl _ _, h2⟩ (fun i σ' H' _ ⟨a, e, o, q⟩ => SqL.of (o _ _ m2 hw)) ?_ ?_
  · rintro i x σ' H2 hx ⟨a, rfl, o2, q2⟩
    rw [List.getElem?_map] at hx
    obtain ⟨p, hp, rfl⟩ := Option.map_eq_some_iff.mp hx
    have hm := List.mem_of_getElem? hp
    have hd2 := o2 _ _ m1 hd
    have hok := ok' i
    o_readsAll
    refine c_done q2 (.of (o2 _ _ (m3 p hm) (ht p hm))) hok.2.1 hok.2.2 (hs p hm) fun H3 o3 q3 => ?_
    o_readsAll
    refine ⟨_, rfl, o2.trans o3, ?_⟩
    rw [q3, List.take_add_one, List.getElem?_map, hp, List.foldl_append]
    rfl
  · rintro σ' H2 ⟨a, rfl, o2, q2⟩
    rw [List.length_map] at q2
    rw [List.take_of_length_le (by rw [List.length_map]; exact Nat.le_refl _), ← iv'] at q2
    have hd2 := o2 _ _ m1 hd
    o_readsAll
    rename_i nl H3 hn3 e3 a3
    refine k _ nl (off_free o2 q2 hn3) ((((Offs.refl _ _).off (by simp) o2).same e3).put (by simp)) ⟨upd_same, ?_, ?_, ?_, (fun _ h => nomatch h), (fun _ h => nomatch h), ne, Nat.zero_le _, rfl, fun i => ?_⟩
    · show upd H3 d _ d1 = some (HO.dK (fk now))
      rw [upd_ne (ne_of h1 hd (by intro z; cases z))]
      exact e3 _ _ (o2 _ _ ne h1)
    · show upd H3 d _ d2 = some (HO.dK (fk now))
      rw [upd_ne m1.symm]
      exact e3 _ _ q2
    · show upd H3 d _ nl = some (HO.lst [])
      rw [upd_ne (ne_of_none hd2 hn3).symm]
      exact a3
    · show OkF ((List.take i []).foldl doIt now)
      rw [List.take_nil]
      show OkF now
      rw [iv']
      have := ok' (wt.map (·.2)).length
      rw [List.take_length] at this
      exact this
def sp_wait (C : Addr) : Sp := fun vs H Q _ => ∃ (D : Dk), vs = [.ref D.d] ∧ DiskAt C H D ∧ ∀ H', Same H H' → Q (.int ((D.its.map fun it => (it.many : Int)).sum)) H'
theorem d_Disk_waiting (T : Txt K w mg Z) : Mth P w K mg base 2 Z.a_Disk "waiting" ["self"] (sp_wait Z.a_Disk) := by
  obtain ⟨f, fd, F, hm, hb⟩ := T.f_Disk_waiting
  refine ⟨⟨f, fd, F.ok sc_Disk_waiting (fun vs H Q E h => by first | (obtain ⟨rfl, _⟩ := h; rfl) | (obtain ⟨_, rfl, _⟩ := h; rfl) | (obtain ⟨_, _, rfl, _⟩ := h; rfl) | (obtain ⟨_, _, _, rfl, _⟩ := h; rfl) | (obtain ⟨_, _, _, _, rfl, _⟩ := h; rfl) | (obtain ⟨_, _, _, _, _, rfl, _⟩ := h; rfl) | (obtain ⟨_, _, _, _, _, _, rfl, _⟩ := h; rfl) | (obtain ⟨_, _, _, _, _, _, _, rfl, _⟩ := h; rfl) | (obtain ⟨_, _, _, _, _, _, _, _, rfl, _⟩ := h; rfl) | (obtain ⟨_, _, _, _, _, _, _, _, _, rfl, _⟩ := h; rfl) | (obtain ⟨_, _, _, _, _, _, _, _, _, _, rfl, _⟩ := h; rfl) | (obtain ⟨_, _, _, _, _, _, _, _, _, _, _, rfl, _⟩ := h; rfl) | (obtain ⟨_, _, _, _, _, _, _, _, _, _, _, _, rfl, _⟩ := h; rfl) | (obtain ⟨_, _, _, _, _, _, _, _, _, _, _, _, _, rfl, _⟩ := h; rfl) | (obtain ⟨_, _, _, _, _, _, _, _, _, _, _, _, _, _, rfl, _⟩ := h; rfl) | (obtain ⟨_, _, _, _, _, _, _, _, _, _, _, _, _, _, _, rfl, _⟩ := h; rfl) | (obtain ⟨_, _, _, _, _, _, _, _, _, _, _, _, _, _, _, _, rfl, _⟩ := h; rfl)) (fun cdv A outer s H vs Q E hr h => ?_), hm, hb⟩, T.l_Disk⟩
  obtain ⟨D, rfl, hD, k⟩ := h
  have hd := hD.hd
  have D_items_in := d_items_in (P := P) (base := base) T
  have l_Disk := T.l_Disk
  have n_Disk_waiting_list := T.n_Disk_waiting_list
  refine ⟨_, (pss_one (ps_ret (pe_callB (cr_sum rfl) (by rfl) T.b_sum bt_sum (pa_cons (pe_lc (own := [("item", 1)]) (by rfl) sc_Disk_waiting.nd (pi_list (pe_fld (pv 0) rfl)) (blkOk_by (N := n_Disk_waiting) (sc := defScope st_Disk_waiting) (by decide +kernel)) (fun _ _ _ _ _ => (pg_name (i := 1) sc_Disk_waiting.nd rfl (.inl rfl))) (fun _ _ _ _ _ => pts_nil) (fun _ _ _ _ _ => (pe_dfn D_items_in (hr.mono (by decide)) (by rfl) (pa_cons (pv 1) pa_nil)))) pa_nil)))), ?_⟩
  try dsimp only [cxOf, Cx.nox, Cx.wish]
  show (_ : TS) _ [some _, none] _
  have hw := hD.hw
  o_readsAll
  refine l_lstP (fun i => .int ((D.its.map fun it => (it.many : Int)).getD i 0)) (.of hw) (fun x => rfl) (fun E1 i x H' hx hE e hl => ?_) fun q H2 hq e2 h2 => ?_
  · rw [List.getElem?_map] at hx
    obtain ⟨p, hp, rfl⟩ := Option.map_eq_some_iff.mp hx
    have hm := List.mem_of_getElem? hp
    have hi := (List.getElem?_eq_some_iff.mp hp).1
    have lw := hD.lw
    o_readsAll
    refine ⟨p.1, p.2, rfl, .of (e _ _ (hD.ht p hm)), hD.hs p hm, ?_⟩
    refine g_itemP e hl hE (by rw [sizeLine_eq]; omega) ?_
    rw [List.getD_eq_getElem?_getD, List.getElem?_map, Dk.its, List.getElem?_map, hp]
    rfl
  · have hq2 : (List.range (D.wt.map fun p => V.ref p.1).length).map (fun i => V.int ((D.its.map fun it => (it.many : Int)).getD i 0)) = (D.its.map fun it => (it.many : Int)).map V.int := by
      rw [List.length_map]
      refine List.ext_getElem? fun i => ?_
      rw [List.getElem?_map, List.getElem?_map]
      by_cases hi : i < D.wt.length
      · rw [List.getElem?_range hi, List.getElem?_eq_getElem (l := D.its.map fun it => (it.many : Int)) (by rw [List.length_map, Dk.its, List.length_map]; exact hi)]
        rw [Option.map_some, Option.map_some, List.getD_eq_getElem?_getD, List.getElem?_eq_getElem (l := D.its.map fun it => (it.many : Int)) (by rw [List.length_map, Dk.its, List.length_map]; exact hi)]
        rfl
      · rw [List.getElem?_eq_none (by rw [List.length_range]; omega), List.getElem?_eq_none (by rw [List.length_map, Dk.its, List.length_map]; omega)]
        rfl
    rw [hq2] at h2
    o_readsAll
    exact k _ e2
end
end L04

namespace L04
open SX Sp Lg TL
section
variable {P : Program} {w : World} {K : PySem.W.Frag} {mg : Str → Option Value} {base : Heap} {Z : Ad}
theorem c_items {p : Addr} {it : Itm} {H : Hp} {Q : VK} {E : XK} (h : SqT K H p it.vals) (hz : it.sz ≤ 5000000) (k : Q (.int (it.many : Int)) H) : sp_items K [.ref p] H Q E := ⟨p, it, rfl, h, hz, k⟩
theorem c_dmake {C : Addr} {H : Hp} {Q : VK} {E : XK} (k : ∀ D H', Fresh D H → Same H H' → D.now = [] → D.kept = [] → D.wt = [] → DiskAt C H' D → Q (.ref D.d) H') : gMake C (sp_dinit C) E [.non] H Q := by
  intro x dx hx hdx hn
  refine ⟨x, dx, rfl, upd_same, fun H' d1 d2 wl o f1 f2 f3 hD => ⟨rfl, ?_⟩⟩
  refine k ⟨x, dx, d1, d2, wl, [], [], []⟩ H' ⟨hx, upd_none (upd_none f1), upd_none (upd_none f2), upd_none (upd_none f3)⟩ (fun b u q => ?_) rfl rfl rfl hD
  have hb := ne_of_none q hx
  refine o b u hb ?_
  rw [upd_ne hb, upd_ne (ne_of_none q hdx)]
  exact q
def sp_again (C : Addr) : Sp := fun vs H Q _ => ∃ (D : Dk) (keep : Nat), vs = [.ref D.d, .int (keep : Int), .non] ∧ DiskAt C H D ∧ (∀ i, OkF (agn D.kept (D.its.take i) keep)) ∧ ∀ D' H', Fresh D' H → Same H H' → DiskAt C H' D' → D'.now = agn D.kept D.its keep → D'.kept = agn D.kept D.its keep → D'.wt = [] → Q (.ref D'.d) H'
theorem d_Disk_again (T : Txt K w mg Z) : Mth P w K mg base 3 Z.a_Disk "again" ["self", "keep", "power"] (sp_again Z.a_Disk) := by
  obtain ⟨f, fd, F, hm, hb⟩ := T.f_Disk_again
  refine ⟨⟨f, fd, F.ok sc_Disk_again (fun vs H Q E h => by first | (obtain ⟨rfl, _⟩ := h; rfl) | (obtain ⟨_, rfl, _⟩ := h; rfl) | (obtain ⟨_, _, rfl, _⟩ := h; rfl) | (obtain ⟨_, _, _, rfl, _⟩ := h; rfl) | (obtain ⟨_, _, _, _, rfl, _⟩ := h; rfl) | (obtain ⟨_, _, _, _, _, rfl, _⟩ := h; rfl) | (obtain ⟨_, _, _, _, _, _, rfl, _⟩ := h; rfl) | (obtain ⟨_, _, _, _, _, _, _, rfl, _⟩ := h; rfl) | (obtain ⟨_, _, _, _, _, _, _, _, rfl, _⟩ := h; rfl) | (obtain ⟨_, _, _, _, _, _, _, _, _, rfl, _⟩ := h; rfl) | (obtain ⟨_, _, _, _, _, _, _, _, _, _, rfl, _⟩ := h; rfl) | (obtain ⟨_, _, _, _, _, _, _, _, _, _, _, rfl, _⟩ := h; rfl) | (obtain ⟨_, _, _, _, _, _, _, _, _, _, _, _, rfl, _⟩ := h; rfl) | (obtain ⟨_, _, _, _, _, _, _, _, _, _, _, _, _, rfl, _⟩ := h; rfl) | (obtain ⟨_, _, _, _, _, _, _, _, _, _, _, _, _, _, rfl, _⟩ := h; rfl) | (obtain ⟨_, _, _, _, _, _, _, _, _, _, _, _, _, _, _, rfl, _⟩ := h; rfl) | (obtain ⟨_, _, _, _, _, _, _, _, _, _, _, _, _, _, _, _, rfl, _⟩ := h; rfl)) (fun cdv A outer s H vs Q E hr h => ?_), hm, hb⟩, T.l_Disk⟩
  obtain ⟨⟨d, dx, d1, d2, wl, now, kept, wt⟩, keep, rfl, hD, hok, k⟩ := h
  have D_Disk_init := d_Disk_init (P := P) (base := base) T
  have D_items_in := d_items_in (P := P) (base := base) T
  have D_done_to := d_done_to (P := P) (base := base) T
  have l_Disk := T.l_Disk
  have n_Disk_files_now := T.n_Disk_files_now
  have n_Disk_files_kept := T.n_Disk_files_kept
  have n_Disk_waiting_list := T.n_Disk_waiting_list
  refine ⟨_, (pss_cons (ps_set (i := 3) sc_Disk_again.nd rfl (.inl rfl) (pe_ini D_Disk_init (hr.mono (by decide)) (by rfl) (pa_cons (pv 2) pa_nil)))
      (pss_cons (ps_set (i := 4) sc_Disk_again.nd rfl (.inl rfl) pe_dnewK)
      (pss_cons (ps_lock (ps_for PassesOwn.never rfl (pi_keys (pe_fld (pv 0) rfl)) (pg_name (i := 5) sc_Disk_again.nd rfl (.inl rfl))
        (pss_one (ps_dput (hu_of hr) (pv 4) (pv 5) (pe_dget (hu_of hr) (pe_fld (pv 0) rfl) (pv 5) (fun _ _ => rfl)) rfl))))
      (pss_cons (ps_set (i := 6) sc_Disk_again.nd rfl (.inl rfl) (pv 1))
      (pss_cons (ps_for PassesOwn.never rfl (pi_list (pe_fld (pv 0) rfl)) (pg_name (i := 7) sc_Disk_again.nd rfl (.inl rfl))
        (pss_cons (ps_set (i := 8) sc_Disk_again.nd rfl (.inl rfl) (pe_dfn D_items_in (hr.mono (by decide)) (by rfl) (pa_cons (pv 7) pa_nil)))
      (pss_cons (ps_if (pt_cmpR op_le (pv 8) (pv 6) (nomark _)) (pss_one (ps_expr (pe_dfn D_done_to (hr.mono (by decide)) (by rfl) (pa_cons (pv 4) (pa_cons (pv 7) pa_nil))))) (pss_one (ps_if (pt_cmpR op_gt (pv 6) pe_int (nomark _)) (pss_one (ps_expr (pe_dfn D_done_to (hr.mono (by decide)) (by rfl) (pa_cons (pv 4) (pa_cons (pe_tup (pa_cons (pe_ix ix_seq (pv 7) pe_int (fun _ _ => rfl)) (pa_cons (pe_ix ix_seq (pv 7) pe_int (fun _ _ => rfl)) (pa_cons (pe_slice sl_u (pe_ix ix_seq (pv 7) pe_int (fun _ _ => rfl)) po_none (po_some (pv 6))) pa_nil)))) pa_nil))))) pss_nil)))
      (pss_one (ps_set (i := 6) sc_Disk_again.nd rfl (.inl rfl) (pe_callB (call_uMax2 rfl) (by rfl) T.b_max bt_max (pa_cons pe_int (pa_cons (pe_op op_sub (pv 6) (pv 8)) pa_nil))))))))
      (pss_cons (ps_lock (ps_for PassesOwn.never rfl (pi_keys (pv 4)) (pg_name (i := 5) sc_Disk_again.nd rfl (.inl rfl))
        (pss_cons (ps_dput (hu_of hr) (pe_fld (pv 3) rfl) (pv 5) (pe_dget (hu_of hr) (pv 4) (pv 5) (fun _ _ => rfl)) rfl)
      (pss_one (ps_dput (hu_of hr) (pe_fld (pv 3) rfl) (pv 5) (pe_dget (hu_of hr) (pv 4) (pv 5) (fun _ _ => rfl)) rfl)))))
      (pss_one (ps_ret (pv 3))))))))), ?_⟩
  try dsimp only [cxOf, Cx.nox, Cx.wish]
  show (_ : TS) _ [some _, some _, some _, none, none, none, none, none, none] _
  obtain ⟨hd, h1, h2, hw, ht, hs, ne, lw, iv, ok⟩ := hD
  dsimp only at hd h1 h2 hw ht hs ne lw iv ok k
  have hok : ∀ i, OkF (agn kept ((wt.map (·.2)).take i) keep) := hok
  have hN : Nd kept := (hok 0).1
  have hlen : kept.length < 1000 := (hok 0).2.1
  have m1 : d ≠ d2 := ne_of hd h2 (by intro z; cases z)
  o_readsAll
  refine c_dmake fun D' H1 fr e1 n1 k1 w1 hD1 => ?_
  o_readsAll
  rename_i p H2 hp e2 hp2 _ _
  refine i_lock (e2 _ _ (e1 _ _ h2)) trivial fun od => ?_
  have np2 : p ≠ d2 := (ne_of_none (e1 _ _ h2) hp).symm
  have npd : p ≠ d := (ne_of_none (e1 _ _ hd) hp).symm
  o_readsAll
  refine f_keys (fun i σ' H' => ∃ a, σ' = [some (.ref d), some (.int (keep : Int)), some .non, some (.ref D'.d), some (.ref p), a, none, none, none] ∧ H' = upd (upd H2 d2 (.frz od (.dK (fk kept)))) p (.dK (fk (kept.take i)))) ⟨_, rfl, ?_⟩ ?_ ?_ ?_
  · exact (upd_at (by rw [upd_ne np2]; exact hp2)).symm
  · rintro i σ' H' - ⟨a, -, rfl⟩
    rw [upd_ne np2.symm, upd_same]
  · rintro i kk v σ' H' hi ⟨a, rfl, rfl⟩
    have hi2 : (kept.map fp)[i]? = some (kk, v) := hi
    rw [List.getElem?_map] at hi2
    obtain ⟨q, hq, eq⟩ := Option.map_eq_some_iff.mp hi2
    cases eq
    have hv := (gt_mem hN hq).2
    have hlt := (List.getElem?_eq_some_iff.mp hq).1
    have hc : (fk (kept.take i)).length < sizeLine := by rw [fk_len, List.length_take, sizeLine_eq]; omega
    change gName _ (.str q.1) _ _ _
    o_readsAll
    refine g_dget (.inr ⟨od, by rw [upd_ne np2.symm, upd_same]⟩) hv ?_
    o_readsAll
    refine ⟨_, rfl, ?_⟩
    rw [upd_upd, fk_put, pt_copy hN hq]
  · rintro σ' H' ⟨a, rfl, rfl⟩
    refine ⟨by rw [upd_ne np2.symm, upd_same], ?_⟩
    rw [fk_len, List.take_length, upd_swap np2, upd_upd, upd_at (e2 _ _ (e1 _ _ h2))]
    have e12 : Same H H2 := e1.trans e2
    have npw : wl ≠ p := ne_of_none (e1 _ _ hw) hp
    have npt : ∀ q ∈ wt, q.1 ≠ p := fun q hq => ne_of_none (e1 _ _ (ht q hq)) hp
    have hw2 : upd H2 p (.dK (fk kept)) wl = some (.lst (wt.map fun p => V.ref p.1)) := by rw [upd_ne npw]; exact e12 _ _ hw
    o_readsAll
    refine f_lst (fun i σ' H' => ∃ a b c, σ' = [some (.ref d), some (.int (keep : Int)), some .non, some (.ref D'.d), some (.ref p), a, some (.int ((keep - manys ((wt.map (·.2)).take i) : Nat) : Int)), b, c] ∧ Off p H2 H' ∧ H' p = some (.dK (fk (agn kept ((wt.map (·.2)).take i) keep)))) ⟨_, _, _, rfl, (off_refl _ _).upd, upd_same⟩ (fun i σ' H' _ ⟨a, b, c, e, o, q⟩ => SqL.of (o _ _ npw (e12 _ _ hw))) ?_ ?_
    · rintro i x σ' H3 hx ⟨a, b, c, rfl, o3, q3⟩
      rw [List.getElem?_map] at hx
      obtain ⟨q, hq, rfl⟩ := Option.map_eq_some_iff.mp hx
      have hm := List.mem_of_getElem? hq
      have hok1 := hok i
      have hok2 := hok (i + 1)
      have htk : (wt.map (·.2)).take (i + 1) = (wt.map (·.2)).take i ++ [q.2] := by rw [List.take_add_one, List.getElem?_map, hq]; rfl
      have hq3 := o3 _ _ (npt q hm) (e12 _ _ (ht q hm))
      o_readsAll
      refine c_items (.of hq3) (hs q hm) ?_
      o_readsAll
      have fin : ∀ H', Off p H2 H' → H' p = some (.dK (fk (agn1 (agn kept ((wt.map (·.2)).take i) keep) q.2 (keep - manys ((wt.map (·.2)).take i))))) → H' p = some (.dK (fk (agn kept ((wt.map (·.2)).take (i + 1)) keep))) := fun H' _ h => by rw [htk, agn_snoc]; exact h
      refine jnS (fun (σ' : L2.St) (H' : Hp) => ∃ (b : Option V), σ' = [some (.ref d), some (.int (keep : Int)), some .non, some (.ref D'.d), some (.ref p), a, some (.int ((keep - manys ((wt.map (·.2)).take i) : Nat) : Int)), b, some (.int (q.2.many : Int))] ∧ Off p H2 H' ∧ H' p = some (.dK (fk (agn kept ((wt.map (·.2)).take (i + 1)) keep)))) ?_ (fun N hN => br (fun hk => ?_) (fun hk => ?_))
      · rintro σ' H4 ⟨b, rfl, o4, q4⟩
        o_readsAll
        rw [show (if (((keep - manys ((wt.map (·.2)).take i) : Nat) : Int) - (q.2.many : Int)) > 0 then (((keep - manys ((wt.map (·.2)).take i) : Nat) : Int) - (q.2.many : Int)) else 0) = ((keep - manys ((wt.map (·.2)).take (i + 1)) : Nat) : Int) by rw [htk, manys_snoc]; split <;> omega]
        exact ⟨_, _, _, rfl, o4, q4⟩
      · o_readsAll
        refine c_done q3 (.of hq3) hok1.2.1 hok1.2.2 (hs q hm) fun H4 o4 q4 => ?_
        refine hN _ _ ⟨_, rfl, o3.trans o4, fin _ (o3.trans o4) ?_⟩
        rw [agn1, if_pos (by omega)]
        exact q4
      · o_readsAll
        refine br (fun hk2 => ?_) (fun hk2 => ?_)
        · obtain ⟨qa, it⟩ := q
          cases it with
          | t f n =>
            have hmt : ((Itm.t f n).many : Int) = 1 := rfl
            rw [show ((qa, Itm.t f n) : Addr × Itm).2 = .t f n from rfl, hmt] at hk
            omega
          | w f x =>
            change H3 qa = some (.tup [_, _, _]) at hq3
            have hsx : x.length ≤ 5000000 := hs (qa, .w f x) hm
            have hmx : ((Itm.w f x).many : Int) = (x.length : Int) := rfl
            rw [show ((qa, Itm.w f x) : Addr × Itm).2 = .w f x from rfl, hmx] at hk
            o_readsAll
            rename_i a4 H4 n4 e4 h4
            rw [cut_to] at h4
            have np4 : p ≠ a4 := ne_of_none q3 n4
            refine c_done (it := .w f (x.take (keep - manys ((wt.map (·.2)).take i)))) (e4 _ _ q3) (.of h4) hok1.2.1 hok1.2.2 (by show (x.take _).length ≤ _; rw [List.length_take]; omega) fun H5 o5 q5 => ?_
            refine hN _ _ ⟨_, rfl, (o3.same e4).trans o5, fin _ ((o3.same e4).trans o5) ?_⟩
            rw [agn1, if_neg (by show ¬ x.length ≤ _; omega), if_pos (by omega)]
            exact q5
        · o_readsAll
          refine ⟨_, rfl, o3, fin _ o3 ?_⟩
          rw [agn1, if_neg (by omega), if_neg (by omega)]
          exact q3
    · rintro σ' H3 ⟨a, c, c2, rfl, o3, q3⟩
      rw [List.length_map] at q3
      rw [List.take_of_length_le (by rw [List.length_map]; exact Nat.le_refl _)] at q3
      have hF : ∀ x, x = agn kept (wt.map (·.2)) keep → OkF x := fun x hx => by
        have := hok (wt.map (·.2)).length
        rw [List.take_length] at this
        rw [hx]; exact this
      generalize eF : agn kept (wt.map (·.2)) keep = F at q3 k
      have hF' := hF F eF.symm
      obtain ⟨fd, f1, f2, fw⟩ := fr
      have hD2 := hD1.same e2
      obtain ⟨g0, g1, g2, gw, -, -, gne, -, -, -⟩ := hD2
      rw [n1] at g1
      rw [k1] at g2
      rw [w1] at gw
      have npd' : D'.d ≠ p := ne_of_none hD1.hd hp
      have np1' : D'.d1 ≠ p := ne_of_none hD1.h1 hp
      have np2' : D'.d2 ≠ p := ne_of_none hD1.h2 hp
      have npw' : D'.wl ≠ p := ne_of_none hD1.hw hp
      have k0 := o3 _ _ npd' g0
      have k1 := o3 _ _ np1' g1
      have k2 := o3 _ _ np2' g2
      have kw := o3 _ _ npw' gw
      have x1 : D'.d ≠ D'.d1 := ne_of k0 k1 (by intro z; cases z)
      have x2 : D'.d ≠ D'.d2 := ne_of k0 k2 (by intro z; cases z)
      have x3 : D'.wl ≠ D'.d1 := ne_of kw k1 (by intro z; cases z)
      have x4 : D'.wl ≠ D'.d2 := ne_of kw k2 (by intro z; cases z)
      o_readsAll
      refine i_lock q3 trivial fun od2 => ?_
      o_readsAll
      refine f_keys (fun i σ' H' => ∃ a b, σ' = [some (.ref d), some (.int (keep : Int)), some .non, some (.ref D'.d), some (.ref p), a, b, c, c2] ∧ H' = upd (upd (upd H3 p (.frz od2 (.dK (fk F)))) D'.d2 (.dK (fk (F.take i)))) D'.d1 (.dK (fk (F.take i)))) ⟨_, _, rfl, ?_⟩ ?_ ?_ ?_
      · rw [upd_at (a := D'.d2) (by rw [upd_ne np2']; exact k2), upd_at (a := D'.d1) (by rw [upd_ne np1']; exact k1)]
      · rintro i σ' H' - ⟨a, b, -, rfl⟩
        rw [upd_ne np1'.symm, upd_ne np2'.symm, upd_same]
      · rintro i kk v σ' H' hi ⟨a, b, rfl, rfl⟩
        have hi2 : (F.map fp)[i]? = some (kk, v) := hi
        rw [List.getElem?_map] at hi2
        obtain ⟨q, hq, eq⟩ := Option.map_eq_some_iff.mp hi2
        cases eq
        have hv := (gt_mem hF'.1 hq).2
        have hlt := (List.getElem?_eq_some_iff.mp hq).1
        have hc : (fk (F.take i)).length < sizeLine := by rw [fk_len, List.length_take, sizeLine_eq]; have := hF'.2.1; omega
        change gName _ (.str q.1) _ _ _
        o_readsAll
        refine g_dget (.inr ⟨od2, by rw [upd_ne np1'.symm, upd_ne np2'.symm, upd_same]⟩) hv ?_
        o_readsAll
        refine g_dget (.inr ⟨od2, by rw [upd_ne np2'.symm, upd_ne np1'.symm, upd_ne np2'.symm, upd_same]⟩) hv ?_
        o_readsAll
        refine ⟨_, _, rfl, ?_⟩
        rw [upd_swap gne, upd_upd, upd_upd, fk_put, pt_copy hF'.1 hq]
      · rintro σ' H' ⟨a, b, rfl, rfl⟩
        refine ⟨by rw [upd_ne np1'.symm, upd_ne np2'.symm, upd_same], ?_⟩
        rw [fk_len, List.take_length, upd_swap np1', upd_swap np2', upd_upd, upd_at q3]
        o_readsAll
        refine k { D' with now := F, kept := F } _ ⟨fd, f1, f2, fw⟩ (fun b u q => ?_) ⟨?_, upd_same, ?_, ?_, ?_, ?_, gne, ?_, ?_, fun i => ?_⟩ eF.symm eF.symm w1
        · rw [upd_ne (ne_of_none q f1), upd_ne (ne_of_none q f2)]
          exact o3 _ _ (ne_of_none (e1 _ _ q) hp) (e12 _ _ q)
        · show upd (upd H3 D'.d2 _) D'.d1 _ D'.d = _
          rw [upd_ne x1, upd_ne x2]; exact k0
        · show upd (upd H3 D'.d2 _) D'.d1 _ D'.d2 = _
          rw [upd_ne gne.symm, upd_same]
        · show upd (upd H3 D'.d2 _) D'.d1 _ D'.wl = some (.lst (D'.wt.map _))
          rw [upd_ne x3, upd_ne x4, w1]; exact kw
        · show ∀ q ∈ D'.wt, _
          rw [w1]; exact fun _ h => nomatch h
        · show ∀ q ∈ D'.wt, _
          rw [w1]; exact fun _ h => nomatch h
        · show D'.wt.length ≤ _
          rw [w1]; exact Nat.zero_le _
        · show F = (D'.wt.map (·.2)).foldl doIt F
          rw [w1]; rfl
        · show OkF (((D'.wt.map (·.2)).take i).foldl doIt F)
          rw [w1, List.map_nil, List.take_nil]
          exact hF'
end
end L04

namespace L04
open SX Sp Lg TL
section
variable {P : Program} {w : World} {K : PySem.W.Frag} {mg : Str → Option Value} {base : Heap} {Z : Ad}
def enV : En → List V
  | .whole => [.str "whole"]
  | .cut n => [.str "cut", .int (n : Int)]
  | .spoilt n => [.str "spoilt", .int (n : Int)]
def sp_slotv (C : Addr) : Sp := fun vs H Q _ => ∃ (D : Dk) (f : Str) (m : V), vs = [.ref D.d, .str f, m] ∧ DiskAt C H D ∧ gt D.now f = [] ∧ Q .non H
theorem c_slotv {C : Addr} {D : Dk} {f : Str} {m : V} {H : Hp} {Q : VK} {E : XK} (hD : DiskAt C H D) (hg : gt D.now f = []) (k : Q .non H) : sp_slotv C [.ref D.d, .str f, m] H Q E := ⟨D, f, m, rfl, hD, hg, k⟩
theorem d_slot_value (T : Txt K w mg Z) : Dfn P w K mg base 7 "slot_value" ["disk", "slot", "most"] (sp_slotv Z.a_Disk) := by
  obtain ⟨f, fd, F, hm, hb⟩ := T.f_slot_value
  refine ⟨f, fd, F.ok sc_slot_value (fun vs H Q E h => by first | (obtain ⟨rfl, _⟩ := h; rfl) | (obtain ⟨_, rfl, _⟩ := h; rfl) | (obtain ⟨_, _, rfl, _⟩ := h; rfl) | (obtain ⟨_, _, _, rfl, _⟩ := h; rfl) | (obtain ⟨_, _, _, _, rfl, _⟩ := h; rfl) | (obtain ⟨_, _, _, _, _, rfl, _⟩ := h; rfl) | (obtain ⟨_, _, _, _, _, _, rfl, _⟩ := h; rfl) | (obtain ⟨_, _, _, _, _, _, _, rfl, _⟩ := h; rfl) | (obtain ⟨_, _, _, _, _, _, _, _, rfl, _⟩ := h; rfl) | (obtain ⟨_, _, _, _, _, _, _, _, _, rfl, _⟩ := h; rfl) | (obtain ⟨_, _, _, _, _, _, _, _, _, _, rfl, _⟩ := h; rfl) | (obtain ⟨_, _, _, _, _, _, _, _, _, _, _, rfl, _⟩ := h; rfl) | (obtain ⟨_, _, _, _, _, _, _, _, _, _, _, _, rfl, _⟩ := h; rfl) | (obtain ⟨_, _, _, _, _, _, _, _, _, _, _, _, _, rfl, _⟩ := h; rfl) | (obtain ⟨_, _, _, _, _, _, _, _, _, _, _, _, _, _, rfl, _⟩ := h; rfl) | (obtain ⟨_, _, _, _, _, _, _, _, _, _, _, _, _, _, _, rfl, _⟩ := h; rfl) | (obtain ⟨_, _, _, _, _, _, _, _, _, _, _, _, _, _, _, _, rfl, _⟩ := h; rfl)) (fun cdv A outer s H vs Q E hr h => ?_), hm, F.kp, hb⟩
  obtain ⟨D, f, m, rfl, hD, hg, k⟩ := h
  have hd := hD.hd
  have D_Disk_read := d_Disk_read (P := P) (base := base) T
  refine ⟨_, (pss_cons (ps_set (i := 3) sc_slot_value.nd rfl (.inl rfl) (pe_mth D_Disk_read (hr.mono (by decide)) (pv 0) (pa_cons (pv 1) pa_nil)))
      (pss_cons (ps_if (PW.pt (pw_or (pt_cmpR (op_uEq hr.units) (pv 3) (pe_s [] (by decide +kernel)) (nomark _)) (pw_or1 (pt_cmpR (op_uNe hr.units) (pe_ix ix_seq (pv 3) (pe_un un_neg pe_int) (fun _ _ => rfl)) (pe_s [10] (by decide +kernel)) (nomark _))))) (pss_one (ps_ret pe_non)) pss_nil)
      (pss_cons ps_never
      (pss_cons ps_never
      (pss_one ps_never))))), ?_⟩
  try dsimp only [cxOf, Cx.nox, Cx.wish]
  show (_ : TS) _ [some _, some _, some _, none, none] _
  o_readsAll
  refine c_read hD ?_
  rw [hg]
  o_readsAll
  refine brT (by simp) ?_
  o_readsAll
  done
def sp_news (C : Addr) : Sp := fun vs H Q _ => ∃ (D : Dk) (m : V), vs = [.ref D.d, m] ∧ DiskAt C H D ∧ gt D.now "snapa" = [] ∧ gt D.now "snapb" = [] ∧ Q .non H
theorem c_news {C : Addr} {D : Dk} {m : V} {H : Hp} {Q : VK} {E : XK} (hD : DiskAt C H D) (hg : gt D.now "snapa" = []) (hg2 : gt D.now "snapb" = []) (k : Q .non H) : sp_news C [.ref D.d, m] H Q E := ⟨D, m, rfl, hD, hg, hg2, k⟩
theorem d_newest_snap (T : Txt K w mg Z) : Dfn P w K mg base 8 "newest_snap" ["disk", "most"] (sp_news Z.a_Disk) := by
  obtain ⟨f, fd, F, hm, hb⟩ := T.f_newest_snap
  refine ⟨f, fd, F.ok sc_newest_snap (fun vs H Q E h => by first | (obtain ⟨rfl, _⟩ := h; rfl) | (obtain ⟨_, rfl, _⟩ := h; rfl) | (obtain ⟨_, _, rfl, _⟩ := h; rfl) | (obtain ⟨_, _, _, rfl, _⟩ := h; rfl) | (obtain ⟨_, _, _, _, rfl, _⟩ := h; rfl) | (obtain ⟨_, _, _, _, _, rfl, _⟩ := h; rfl) | (obtain ⟨_, _, _, _, _, _, rfl, _⟩ := h; rfl) | (obtain ⟨_, _, _, _, _, _, _, rfl, _⟩ := h; rfl) | (obtain ⟨_, _, _, _, _, _, _, _, rfl, _⟩ := h; rfl) | (obtain ⟨_, _, _, _, _, _, _, _, _, rfl, _⟩ := h; rfl) | (obtain ⟨_, _, _, _, _, _, _, _, _, _, rfl, _⟩ := h; rfl) | (obtain ⟨_, _, _, _, _, _, _, _, _, _, _, rfl, _⟩ := h; rfl) | (obtain ⟨_, _, _, _, _, _, _, _, _, _, _, _, rfl, _⟩ := h; rfl) | (obtain ⟨_, _, _, _, _, _, _, _, _, _, _, _, _, rfl, _⟩ := h; rfl) | (obtain ⟨_, _, _, _, _, _, _, _, _, _, _, _, _, _, rfl, _⟩ := h; rfl) | (obtain ⟨_, _, _, _, _, _, _, _, _, _, _, _, _, _, _, rfl, _⟩ := h; rfl) | (obtain ⟨_, _, _, _, _, _, _, _, _, _, _, _, _, _, _, _, rfl, _⟩ := h; rfl)) (fun cdv A outer s H vs Q E hr h => ?_), hm, F.kp, hb⟩
  obtain ⟨D, m, rfl, hD, hg, hg2, k⟩ := h
  have tS := T.t_SLOTS H
  have D_slot_value := d_slot_value (P := P) (base := base) T
  refine ⟨_, (pss_cons (ps_set (i := 2) sc_newest_snap.nd rfl (.inl rfl) (pe_dfn D_slot_value (hr.mono (by decide)) (by rfl) (pa_cons (pv 0) (pa_cons (pe_ix ix_seq (pe_gr T.c_SLOTS) pe_int (fun _ _ => rfl)) (pa_cons (pv 1) pa_nil)))))
      (pss_cons (ps_set (i := 3) sc_newest_snap.nd rfl (.inl rfl) (pe_dfn D_slot_value (hr.mono (by decide)) (by rfl) (pa_cons (pv 0) (pa_cons (pe_ix ix_seq (pe_gr T.c_SLOTS) pe_int (fun _ _ => rfl)) (pa_cons (pv 1) pa_nil)))))
      (pss_cons (ps_if (PW.pt (pw_or (pt_cmpR op_uIsN (pv 2) pe_non (nomark _)) (pw_or1 (PW.pt (pw_and (pt_cmpR op_uNotN (pv 3) pe_non (nomark _)) (pw_and1 (pt_cmpR op_ge (pe_ix ix_seq (pv 3) pe_int (fun _ _ => rfl)) (pe_ix ix_seq (pv 2) pe_int (fun _ _ => rfl)) (nomark _)))))))) (pss_one (ps_ret (pv 3))) pss_nil)
      (pss_one (ps_ret (pv 2)))))), ?_⟩
  try dsimp only [cxOf, Cx.nox, Cx.wish]
  show (_ : TS) _ [some _, some _, none, none] _
  o_readsAll
  refine c_slotv hD hg ?_
  o_readsAll
  refine c_slotv hD hg2 ?_
  o_readsAll
  done
theorem spl_mem : ∀ (S0 l : List Nat) (k : Nat) (acc p : List Nat), p ∈ spl S0 k acc l → p.length ≤ acc.length + l.length
  | S0, [], k, acc, p, h => by rw [spl_nil] at h; simp at h; subst h; simp
  | S0, c :: l, 0, acc, p, h => by
    rw [spl] at h
    split at h
    · rcases List.mem_cons.mp h with h | h
      · subst h; simp
      · have := spl_mem S0 l _ _ p h
        simp at this ⊢
        omega
    · have := spl_mem S0 l 0 _ p h
      simp at this ⊢
      omega
  | S0, c :: l, k + 1, acc, p, h => by
    rw [spl] at h
    have := spl_mem S0 l k _ p h
    simp at this ⊢
    omega
theorem recP_bad {p : List Nat} {q : List (List Nat)} {k : Nat} (hq : q ≠ []) (h : lineW p (k + 1) = none) : recP k (p :: q) = ([], .spoilt (k + 1)) := by
  cases q with
  | nil => exact absurd rfl hq
  | cons a r => simp only [recP, h]
theorem dropc {α : Type} {xs : List α} {i : Nat} {p : α} (h : xs[i]? = some p) : xs.drop i = p :: xs.drop (i + 1) := by
  obtain ⟨hi, e⟩ := List.getElem?_eq_some_iff.mp h
  rw [List.drop_eq_getElem_cons hi, e]
def sp_rec (Z : Ad) : Sp := fun vs H Q E => ∃ (D : Dk) (rows : List (List Nat)) (en : En), vs = [.ref D.d] ∧ DiskAt Z.a_Disk H D ∧ (gt D.now "log").length ≤ 9000000 ∧ gt D.now "snapa" = [] ∧ gt D.now "snapb" = [] ∧ recP 0 (pcs (gt D.now "log")) = (rows, en) ∧ ((pcs (gt D.now "log")).length ≤ 2001 → ∀ H' p a b, H p = none → H a = none → H b = none → Same H H' → H' a = some (.lst (rows.map fun r => .str (S r))) → H' b = some (.tup (enV en)) → H' p = some (.tup [.ref a, .ref b, .non]) → Q (.ref p) H') ∧ (2001 < (pcs (gt D.now "log")).length → ∀ d H', H d = none → Same H H' → H' d = some (.xd [("what", .str "log")]) → E (.ref Z.a_TooMany) (some d) H')
theorem d_recover (T : Txt K w mg Z) : DfnX P w K mg base 9 "recover" ["disk"] (sp_rec Z) := by
  obtain ⟨f, fd, F, hm, hb⟩ := T.f_recover
  refine ⟨f, fd, F.okX sc_recover (fun vs H Q E h => by first | (obtain ⟨rfl, _⟩ := h; rfl) | (obtain ⟨_, rfl, _⟩ := h; rfl) | (obtain ⟨_, _, rfl, _⟩ := h; rfl) | (obtain ⟨_, _, _, rfl, _⟩ := h; rfl) | (obtain ⟨_, _, _, _, rfl, _⟩ := h; rfl) | (obtain ⟨_, _, _, _, _, rfl, _⟩ := h; rfl) | (obtain ⟨_, _, _, _, _, _, rfl, _⟩ := h; rfl) | (obtain ⟨_, _, _, _, _, _, _, rfl, _⟩ := h; rfl) | (obtain ⟨_, _, _, _, _, _, _, _, rfl, _⟩ := h; rfl) | (obtain ⟨_, _, _, _, _, _, _, _, _, rfl, _⟩ := h; rfl) | (obtain ⟨_, _, _, _, _, _, _, _, _, _, rfl, _⟩ := h; rfl) | (obtain ⟨_, _, _, _, _, _, _, _, _, _, _, rfl, _⟩ := h; rfl) | (obtain ⟨_, _, _, _, _, _, _, _, _, _, _, _, rfl, _⟩ := h; rfl) | (obtain ⟨_, _, _, _, _, _, _, _, _, _, _, _, _, rfl, _⟩ := h; rfl) | (obtain ⟨_, _, _, _, _, _, _, _, _, _, _, _, _, _, rfl, _⟩ := h; rfl) | (obtain ⟨_, _, _, _, _, _, _, _, _, _, _, _, _, _, _, rfl, _⟩ := h; rfl) | (obtain ⟨_, _, _, _, _, _, _, _, _, _, _, _, _, _, _, _, rfl, _⟩ := h; rfl)) (fun cdv A outer s H vs Q E hr h => ?_), hm, F.kp, hb⟩
  obtain ⟨D, rows, en, rfl, hD, hl, ha, hb, hrec, k, kx⟩ := h
  have hd := hD.hd
  have hLim := T.k_LIMITS_log
  have D_bound := d_bound (P := P) (base := base) T
  have D_line_words := d_line_words (P := P) (base := base) T
  have D_newest_snap := d_newest_snap (P := P) (base := base) T
  have D_Disk_read := d_Disk_read (P := P) (base := base) T
  refine ⟨_, (pss_cons (ps_set (i := 1) sc_recover.nd rfl (.inl rfl) (pe_bm PySem.F.plainAttrs_str PySem.F.slot_str_split PySem.F.type_str_split mt_uSplit (pe_mth D_Disk_read (hr.mono (by decide)) (pv 0) (pa_cons (pe_gs T.c_LOG) pa_nil)) (pa_cons (pe_s [10] (by decide +kernel)) pa_nil)))
      (pss_cons (ps_expr (pe_dfnS D_bound (hr.mono (by decide)) (by rfl) (takes_of rfl rfl rfl rfl) (pa_cons pe_str (pa_cons (pe_op op_sub (pe_callB call_uLen (by rfl) T.b_len bt_len (pa_cons (pv 1) pa_nil)) pe_int) pa_nil))))
      (pss_cons (ps_set (i := 2) sc_recover.nd rfl (.inl rfl) (pe_lst pa_nil))
      (pss_cons (ps_for (passes_of rfl) rfl (pi_range1 (by rfl) T.b_range (pa_cons (pe_op op_sub (pe_callB call_uLen (by rfl) T.b_len bt_len (pa_cons (pv 1) pa_nil)) pe_int) pa_nil)) (pg_name (i := 3) sc_recover.nd rfl (.inl rfl))
        (pss_cons (ps_set (i := 4) sc_recover.nd rfl (.inl rfl) (pe_dfn D_line_words (hr.mono (by decide)) (by rfl) (pa_cons (pe_ix ix_seq (pv 1) (pv 3) (fun _ _ => rfl)) (pa_cons (pe_op op_uAdd (pv 3) pe_int) pa_nil))))
      (pss_cons (ps_if (pt_cmpR op_uIsN (pv 4) pe_non (nomark _)) (pss_one (ps_ret (pe_tup (pa_cons (pv 2) (pa_cons (pe_tup (pa_cons pe_str (pa_cons (pe_op op_uAdd (pv 3) pe_int) pa_nil))) (pa_cons (pe_dfn D_newest_snap (hr.mono (by decide)) (by rfl) (pa_cons (pv 0) (pa_cons (pe_callB call_uLen (by rfl) T.b_len bt_len (pa_cons (pv 2) pa_nil)) pa_nil))) pa_nil)))))) pss_nil)
      (pss_one (ps_expr (pe_bm PySem.F.plainAttrs_list PySem.F.slot_list_append PySem.F.type_list_append mt_append (pv 2) (pa_cons (pv 4) pa_nil)))))))
      (pss_cons (ps_set (i := 5) sc_recover.nd rfl (.inl rfl) (pe_ifExp (pt_cmpR (op_uEq hr.units) (pe_ix ix_seq (pv 1) (pe_un un_neg pe_int) (fun _ _ => rfl)) (pe_s [] (by decide +kernel)) (nomark _)) (pe_tup (pa_cons pe_str pa_nil)) (pe_tup (pa_cons pe_str (pa_cons (pe_callB call_uLen (by rfl) T.b_len bt_len (pa_cons (pv 1) pa_nil)) pa_nil)))))
      (pss_one (ps_ret (pe_tup (pa_cons (pv 2) (pa_cons (pv 5) (pa_cons (pe_dfn D_newest_snap (hr.mono (by decide)) (by rfl) (pa_cons (pv 0) (pa_cons (pe_callB call_uLen (by rfl) T.b_len bt_len (pa_cons (pv 2) pa_nil)) pa_nil))) pa_nil))))))))))), ?_⟩
  try dsimp only [cxOf, Cx.nox, Cx.wish]
  show (_ : TS) _ [some _, none, none, none, none, none] _
  o_readsAll
  refine c_read hD ?_
  generalize eX : gt D.now "log" = X at hl hrec k kx
  o_readsAll
  refine g_split (by rfl) (by rw [S_len, sizeLine_eq]; omega) fun q H1 hq e1 h1 => ?_
  rw [split_S (by decide) (by decide)] at h1
  have h1' : H1 q = some (.lst ((pcs X).map fun p => .str (S p))) := by rw [h1, List.map_map]; rfl
  have hlen : ((pcs X).map fun p => V.str (S p)).length = (pcs X).length := List.length_map _
  have hne : pcs X ≠ [] := spl_ne _ _ _ _
  have hpos : 0 < (pcs X).length := List.length_pos_iff.mpr hne
  o_readsAll
  by_cases hn : (pcs X).length ≤ 2001
  case neg =>
    refine c_boundX hLim (by rw [hlen]; omega) T.m_TOLD_log fun d H2 fd e2 h2 => ?_
    exact kx (by omega) d H2 (e1.free fd) (e1.trans e2) h2
  replace k := k hn
  refine c_bound hLim (by rw [hlen]; omega) fun H2 e2 => ?_
  o_readsAll
  rename_i l H3 hl3 e3 h3 _ _
  have s3 : Same H H3 := (e1.trans e2).trans e3
  have nql : q ≠ l := ne_of_none (e2 _ _ h1') hl3
  have hlH : H l = none := (e1.trans e2).free hl3
  have hqH := hq
  have hN : (((pcs X).map fun p => V.str (S p)).length - 1 : Int).toNat = (pcs X).length - 1 := by rw [hlen]; omega
  rw [hN]
  have q3 : H3 q = some (.lst ((pcs X).map fun p => .str (S p))) := e3 _ _ (e2 _ _ h1')
  have sO : ∀ H', Off l H3 H' → Same H H' := fun H' o b u hb => o b u (ne_of_none hb hlH) (s3 _ _ hb)
  refine f_rng (fun i σ' H' => ∃ acc x y, σ' = [some (.ref D.d), some (.ref q), some (.ref l), x, y, none] ∧ acc.length = i ∧ Off l H3 H' ∧ H' l = some (.lst (acc.map fun r => .str (S r))) ∧ recP 0 (pcs X) = (acc ++ (recP i ((pcs X).drop i)).1, (recP i ((pcs X).drop i)).2)) ⟨[], _, _, rfl, rfl, off_refl _ _, h3, by rw [List.drop_zero]; rfl⟩ ?_ ?_
  · rintro i σ' H4 hi ⟨acc, x, y, rfl, hacc, o4, h4, r4⟩
    rw [Int.zero_add]
    have hp : (pcs X)[i]? = some ((pcs X)[i]'(by omega)) := List.getElem?_eq_getElem _
    generalize (pcs X)[i]'(by omega) = p at hp
    have hpl := spl_mem _ _ _ _ _ (List.mem_of_getElem? hp)
    rw [List.length_nil, Nat.zero_add] at hpl
    have hdr := dropc hp
    have hdn : (pcs X).drop (i + 1) ≠ [] := fun h => by have := List.drop_eq_nil_iff.mp h; omega
    have q4 := o4 _ _ nql q3
    o_readsAll
    refine g_ixL (.of q4) (atI_nat (by rw [List.getElem?_map, hp]; rfl)) ?_
    o_readsAll
    rw [show ((i : Int) + 1) = ((i + 1 : Nat) : Int) from rfl]
    refine c_lwords (by omega) (by omega) fun H5 e5 => ?_
    have h5 := e5 _ _ h4
    have s5 := (sO _ o4).trans e5
    rw [hdr] at r4
    cases hw : lineW p (i + 1) with
    | none =>
      rw [recP_bad hdn hw, hrec, List.append_nil] at r4
      simp only [Prod.mk.injEq] at r4
      obtain ⟨rfl, rfl⟩ := r4
      dsimp only [optV]
      o_readsAll
      rename_i b H6 hb6 e6 h6
      refine c_news (hD.same (s5.trans e6)) ha hb ?_
      o_readsAll
      rename_i p2 H7 hp7 e7 h7
      exact k _ p2 l b (s5.free (e6.free hp7)) hlH (s5.free hb6) ((s5.trans e6).trans e7) (e7 _ _ (e6 _ _ h5)) (e7 _ _ h6) h7
    | some ws =>
      rw [recP_line hdn hw] at r4
      dsimp only [optV]
      have hrl : (acc.map fun r => V.str (S r)).length < sizeLine := by rw [List.length_map, sizeLine_eq]; omega
      o_readsAll
      refine ⟨acc ++ [ws], _, _, rfl, by rw [List.length_append, hacc]; rfl, (o4.same e5).upd, by rw [upd_same, List.map_append]; rfl, ?_⟩
      rw [r4, List.append_assoc]
      rfl
  · rintro σ' H4 ⟨acc, x, y, rfl, hacc, o4, h4, r4⟩
    have hp : (pcs X)[(pcs X).length - 1]? = some ((pcs X)[(pcs X).length - 1]'(by omega)) := List.getElem?_eq_getElem _
    generalize (pcs X)[(pcs X).length - 1]'(by omega) = p at hp
    have hdr := dropc hp
    have hdn : (pcs X).drop ((pcs X).length - 1 + 1) = [] := List.drop_eq_nil_iff.mpr (by omega)
    rw [hdr, hdn, hrec] at r4
    simp only [recP, List.append_nil, Prod.mk.injEq] at r4
    obtain ⟨rfl, rfl⟩ := r4
    have q4 := o4 _ _ nql q3
    have hlast : atI ((pcs X).map fun p => V.str (S p)) (-1) = some (.str (S p)) := by
      have : pcs X = (pcs X).take ((pcs X).length - 1) ++ [p] := by
        conv => lhs; rw [← List.take_append_drop ((pcs X).length - 1) (pcs X)]
        rw [hdr, hdn]
      rw [this, List.map_append]
      exact atI_last _ _
    o_readsAll
    refine g_ixL (.of q4) hlast ?_
    o_readsAll
    have s4 := sO _ o4
    refine jnE (fun x H' => ∃ b, x = .ref b ∧ H b = none ∧ Same H4 H' ∧ H' b = some (.tup (enV (if p = [] then .whole else .cut ((pcs X).length - 1 + 1))))) ?_ (fun Q' hQ => br (fun hk => ?_) (fun hk => ?_))
    · rintro x H6 ⟨b, rfl, fb, e6, h6⟩
      have h66 := e6 _ _ h4
      o_readsAll
      refine c_news (hD.same (s4.trans e6)) ha hb ?_
      o_readsAll
      rename_i p2 H7 hp7 e7 h7
      exact k _ p2 l b (s4.free (e6.free hp7)) hlH fb ((s4.trans e6).trans e7) (e7 _ _ h66) (e7 _ _ h6) h7
    · o_readsAll
      rename_i b H6 hb6 e6 h6
      have hp0 : p = [] := S_inj hk
      refine hQ _ _ ⟨b, rfl, s4.free hb6, e6, ?_⟩
      rw [h6, if_pos hp0]
      rfl
    · o_readsAll
      rename_i b H6 hb6 e6 h6
      have hp0 : ¬ p = [] := fun h => hk (by rw [h])
      refine hQ _ _ ⟨b, rfl, s4.free hb6, e6, ?_⟩
      rw [h6, if_neg hp0, show (pcs X).length - 1 + 1 = (pcs X).length by omega, hlen]
      rfl
theorem logT_sum : ∀ (rows : List (List Nat)) (k : Nat), ((List.range rows.length).map fun i => (((logL (k + i + 1) (rows.getD i [])).length + 1 : Nat) : Int)).sum = ((logT k rows).length : Int)
  | [], k => rfl
  | w :: r, k => by
    have ih := logT_sum r (k + 1)
    rw [List.length_cons, List.range_succ_eq_map, List.map_cons, List.map_map, List.sum_cons, logT, List.length_append, List.length_cons]
    have e : ((List.range r.length).map ((fun i => (((logL (k + i + 1) ((w :: r).getD i [])).length + 1 : Nat) : Int)) ∘ Nat.succ)) = (List.range r.length).map fun i => (((logL (k + 1 + i + 1) (r.getD i [])).length + 1 : Nat) : Int) := by
      congr 1
      funext i
      show (((logL (k + (i + 1) + 1) _).length + 1 : Nat) : Int) = _
      rw [show k + (i + 1) + 1 = k + 1 + i + 1 by omega]
      rfl
    rw [e, ih]
    show (((logL (k + 0 + 1) w).length + 1 : Nat) : Int) + _ = _
    simp only [Nat.add_zero, Int.natCast_add]
    omega
def sp_sgo (K : PySem.W.Frag) : Sp := fun vs H Q _ => ∃ (a : Addr) (rows : List (List Nat)), vs = [.ref a] ∧ SqL K H a (rows.map fun r => .str (S r)) ∧ rows.length ≤ 2000 ∧ (∀ r ∈ rows, okW r = true) ∧ ∀ H', Same H H' → Q (.int ((logT 0 rows).length : Int)) H'
theorem d_signs_of (T : Txt K w mg Z) : Dfn P w K mg base 5 "signs_of" ["rows"] (sp_sgo K) := by
  obtain ⟨f, fd, F, hm, hb⟩ := T.f_signs_of
  refine ⟨f, fd, F.ok sc_signs_of (fun vs H Q E h => by first | (obtain ⟨rfl, _⟩ := h; rfl) | (obtain ⟨_, rfl, _⟩ := h; rfl) | (obtain ⟨_, _, rfl, _⟩ := h; rfl) | (obtain ⟨_, _, _, rfl, _⟩ := h; rfl) | (obtain ⟨_, _, _, _, rfl, _⟩ := h; rfl) | (obtain ⟨_, _, _, _, _, rfl, _⟩ := h; rfl) | (obtain ⟨_, _, _, _, _, _, rfl, _⟩ := h; rfl) | (obtain ⟨_, _, _, _, _, _, _, rfl, _⟩ := h; rfl) | (obtain ⟨_, _, _, _, _, _, _, _, rfl, _⟩ := h; rfl) | (obtain ⟨_, _, _, _, _, _, _, _, _, rfl, _⟩ := h; rfl) | (obtain ⟨_, _, _, _, _, _, _, _, _, _, rfl, _⟩ := h; rfl) | (obtain ⟨_, _, _, _, _, _, _, _, _, _, _, rfl, _⟩ := h; rfl) | (obtain ⟨_, _, _, _, _, _, _, _, _, _, _, _, rfl, _⟩ := h; rfl) | (obtain ⟨_, _, _, _, _, _, _, _, _, _, _, _, _, rfl, _⟩ := h; rfl) | (obtain ⟨_, _, _, _, _, _, _, _, _, _, _, _, _, _, rfl, _⟩ := h; rfl) | (obtain ⟨_, _, _, _, _, _, _, _, _, _, _, _, _, _, _, rfl, _⟩ := h; rfl) | (obtain ⟨_, _, _, _, _, _, _, _, _, _, _, _, _, _, _, _, rfl, _⟩ := h; rfl)) (fun cdv A outer s H vs Q E hr h => ?_), hm, F.kp, hb⟩
  obtain ⟨a, rows, rfl, hS, hl, hw, k⟩ := h
  have D_log_line := d_log_line (P := P) (base := base) T
  refine ⟨_, (pss_one (ps_ret (pe_callB (cr_sum rfl) (by rfl) T.b_sum bt_sum (pa_cons (pe_lc (own := [("at", 1), ("words", 2)]) (by rfl) sc_signs_of.nd (pi_enum (by rfl) T.b_enumerate (pa_cons (pv 0) pa_nil)) (blkOk_by (N := n_signs_of) (sc := defScope st_signs_of) (by decide +kernel)) (fun _ _ _ _ _ => (pg_tupK (K := K) (n := 2) rfl (by rfl) (pgs_cons (pg_name (i := 1) sc_signs_of.nd rfl (.inl rfl)) (pgs_cons (pg_name (i := 2) sc_signs_of.nd rfl (.inl rfl)) pgs_nil)))) (fun _ _ _ _ _ => pts_nil) (fun _ _ _ _ _ => (pe_op (op_uAddK (K := K) rfl) (pe_callB (call_uLenK (K := K) rfl) (by rfl) T.b_len bt_len (pa_cons (pe_dfnS D_log_line (hr.mono (by decide)) (by rfl) takes0 (pa_cons (pe_op (op_uAddK (K := K) rfl) (pv 1) pe_int) (pa_cons (pv 2) pa_nil))) pa_nil)) pe_int))) pa_nil)))), ?_⟩
  try dsimp only [cxOf, Cx.nox, Cx.wish]
  show (_ : TS) _ [some _, none, none] _
  o_readsAll
  refine l_enumP (fun i => .int (((logL (i + 1) (rows.getD i [])).length + 1 : Nat) : Int)) hS (fun x y => rfl) (fun D i x H' hx hD e hl' => ?_) fun q H2 hq e2 h2 => ?_
  · rw [List.getElem?_map] at hx
    obtain ⟨r, hr', rfl⟩ := Option.map_eq_some_iff.mp hx
    have ho := hw _ (List.mem_of_getElem? hr')
    have hi := (List.getElem?_eq_some_iff.mp hr').1
    have hg : rows.getD i [] = r := by rw [List.getD_eq_getElem?_getD, hr']; rfl
    o_readsAll
    rw [show ((i : Int) + 1) = ((i + 1 : Nat) : Int) from rfl]
    refine c_line (by omega) (okW_len ho) (fun c hc => by have := (okW_sign ho c hc).2; omega) fun H3 e3 => ?_
    have hq := logL_len (n := i + 1) (w := r) (by omega) (okW_len ho)
    o_readsAll
    exact g_itemP (e.trans e3) (e3 _ _ hl') hD (by rw [sizeLine_eq]; omega) (by rw [hg, S_len]; rfl)
  · rw [List.length_map, show (List.range rows.length).map (fun i => V.int (((logL (i + 1) (rows.getD i [])).length + 1 : Nat) : Int)) = ((List.range rows.length).map fun i => (((logL (i + 1) (rows.getD i [])).length + 1 : Nat) : Int)).map V.int by rw [List.map_map]; rfl] at h2
    have hs := logT_sum rows 0
    simp only [Nat.zero_add] at hs
    o_readsAll
    rw [hs]
    exact k _ e2
end
end L04

namespace L04
open SX Sp Lg TL
section
variable {P : Program} {w : World} {K : PySem.W.Frag} {mg : Str → Option Value} {base : Heap} {Z : Ad}
theorem c_write {C : Addr} {D : Dk} {f : Str} {x : List Nat} {H : Hp} {Q : VK} {E : XK} (hD : DiskAt C H D) (hx : x ≠ []) (hl : x.length ≤ 5000000) (ho : OkF (doIt D.now (.w f x))) (hw : D.wt.length < 100000) (k : ∀ H' p, H p = none → Offs [D.d1, D.wl] H H' → DiskAt C H' { D with now := doIt D.now (.w f x), wt := D.wt ++ [(p, .w f x)] } → Q .non H') : sp_write C [.ref D.d, .str f, .str (S x)] H Q E := ⟨D, f, x, rfl, hD, hx, hl, ho, hw, k⟩
theorem c_trim {C : Addr} {D : Dk} {f : Str} {n : Nat} {H : Hp} {Q : VK} {E : XK} (hD : DiskAt C H D) (ho : OkF (doIt D.now (.t f n))) (hw : D.wt.length < 100000) (k : ∀ H' p, H p = none → Offs [D.d1, D.wl] H H' → DiskAt C H' { D with now := doIt D.now (.t f n), wt := D.wt ++ [(p, .t f n)] } → Q .non H') : sp_trim C [.ref D.d, .str f, .int (n : Int)] H Q E := ⟨D, f, n, rfl, hD, ho, hw, k⟩
theorem c_sync {C d : Addr} {D : Dk} {H : Hp} {Q : VK} {E : XK} (hD : DiskAt C H D) (e : d = D.d) (k : ∀ H' wl', H wl' = none → Offs [D.d, D.d2] H H' → DiskAt C H' { D with kept := D.now, wl := wl', wt := [] } → Q .non H') : sp_sync C [.ref d] H Q E := by subst e; exact ⟨D, rfl, hD, k⟩
theorem c_rec {D : Dk} {rows : List (List Nat)} {en : En} {H : Hp} {Q : VK} {E : XK} (hD : DiskAt Z.a_Disk H D) (hl : (gt D.now "log").length ≤ 9000000) (hn : (pcs (gt D.now "log")).length ≤ 2001) (ha : gt D.now "snapa" = []) (hb : gt D.now "snapb" = []) (hr : recP 0 (pcs (gt D.now "log")) = (rows, en)) (k : ∀ H' p a b, H p = none → H a = none → H b = none → Same H H' → H' a = some (.lst (rows.map fun r => .str (S r))) → H' b = some (.tup (enV en)) → H' p = some (.tup [.ref a, .ref b, .non]) → Q (.ref p) H') : sp_rec Z [.ref D.d] H Q E := ⟨D, rows, en, rfl, hD, hl, ha, hb, hr, fun _ => k, fun h => absurd h (by omega)⟩
theorem c_recX {D : Dk} {H : Hp} {Q : VK} {E : XK} (hD : DiskAt Z.a_Disk H D) (hl : (gt D.now "log").length ≤ 9000000) (hn : 2001 < (pcs (gt D.now "log")).length) (ha : gt D.now "snapa" = []) (hb : gt D.now "snapb" = []) (k : ∀ d H', H d = none → Same H H' → H' d = some (.xd [("what", .str "log")]) → E (.ref Z.a_TooMany) (some d) H') : sp_rec Z [.ref D.d] H Q E := ⟨D, _, _, rfl, hD, hl, ha, hb, rfl, fun h => absurd h (by omega), fun _ => k⟩
theorem c_sgo {a : Addr} {rows : List (List Nat)} {H : Hp} {Q : VK} {E : XK} (h : SqL K H a (rows.map fun r => .str (S r))) (hl : rows.length ≤ 2000) (hw : ∀ r ∈ rows, okW r = true) (k : ∀ H', Same H H' → Q (.int ((logT 0 rows).length : Int)) H') : sp_sgo K [.ref a] H Q E := ⟨a, rows, rfl, h, hl, hw, k⟩
theorem disk_off {C a : Addr} {H H' : Hp} {D : Dk} (h : DiskAt C H D) (o : Off a H H') (n : a ≠ D.d) (n1 : a ≠ D.d1) (n2 : a ≠ D.d2) (nw : a ≠ D.wl) (nt : ∀ p ∈ D.wt, p.1 ≠ a) : DiskAt C H' D :=
  ⟨o _ _ n.symm h.hd, o _ _ n1.symm h.h1, o _ _ n2.symm h.h2, o _ _ nw.symm h.hw, fun p m => o _ _ (nt p m) (h.ht p m), h.hs, h.ne, h.lw, h.iv, h.ok⟩
def StoreAt (C : Addr) (H : Hp) (s dx d rl : Addr) (rows : List (List Nat)) : Prop := H s = some (.ins C dx [("disk_kept", .ref d), ("rows_list", .ref rl)]) ∧ H rl = some (.lst (rows.map fun r => .str (S r)))
theorem recP_ok : ∀ (ps : List (List Nat)) (k : Nat), ∀ r ∈ (recP k ps).1, okW r = true
  | [], k, r, h => by simp [recP] at h
  | [p], k, r, h => by simp [recP] at h
  | p :: q :: ps, k, r, h => by
    cases hw : lineW p (k + 1) with
    | none => simp [recP, hw] at h
    | some w =>
      simp only [recP, hw, List.mem_cons] at h
      rcases h with rfl | h
      · exact (lineW_some.mp hw).1
      · exact recP_ok (q :: ps) (k + 1) r h
theorem recP_len : ∀ (ps : List (List Nat)) (k : Nat), (recP k ps).1.length ≤ ps.length - 1
  | [], k => by simp [recP]
  | [p], k => by simp [recP]
  | p :: q :: ps, k => by
    cases hw : lineW p (k + 1) with
    | none => simp [recP, hw]
    | some w =>
      have := recP_len (q :: ps) (k + 1)
      simp only [recP, hw, List.length_cons] at this ⊢
      omega
def sp_sinit (Z : Ad) : Sp := fun vs H Q E => ∃ (D : Dk) (s dx : Addr) (rows : List (List Nat)) (en : En), vs = [.ref s, .ref D.d] ∧ H s = some (.ins Z.a_Store dx []) ∧ DiskAt Z.a_Disk H D ∧ (gt D.now "log").length ≤ 9000000 ∧ gt D.now "snapa" = [] ∧ gt D.now "snapb" = [] ∧ recP 0 (pcs (gt D.now "log")) = (rows, en) ∧ (∀ n, en ≠ .spoilt n) ∧ OkF (doIt D.now (.t "log" (logT 0 rows).length)) ∧ D.wt.length < 100000 ∧ s ≠ D.d ∧ ((pcs (gt D.now "log")).length ≤ 2001 → ∀ H' D' rl, H rl = none → Offs [s, D.d, D.d1, D.d2, D.wl] H H' → DiskAt Z.a_Disk H' D' → D'.d = D.d → (en = .whole → D' = D) → (en ≠ .whole → D'.d1 = D.d1 ∧ D'.d2 = D.d2 ∧ H D'.wl = none ∧ D'.now = doIt D.now (.t "log" (logT 0 rows).length) ∧ D'.kept = doIt D.now (.t "log" (logT 0 rows).length) ∧ D'.wt = []) → rl ≠ D'.wl → StoreAt Z.a_Store H' s dx D.d rl rows → Q .non H') ∧ (2001 < (pcs (gt D.now "log")).length → ∀ d H', H d = none → Same H H' → H' d = some (.xd [("what", .str "log")]) → E (.ref Z.a_TooMany) (some d) H')
theorem d_Store_init (T : Txt K w mg Z) : IniX P w K mg base 10 "Store" Z.a_Store ["self", "disk"] (sp_sinit Z) := by
  obtain ⟨f, fd, F, hM, hm, hb⟩ := T.f_Store_init
  refine ⟨f, fd, F.okX sc_Store_init (fun vs H Q E h => by first | (obtain ⟨rfl, _⟩ := h; rfl) | (obtain ⟨_, rfl, _⟩ := h; rfl) | (obtain ⟨_, _, rfl, _⟩ := h; rfl) | (obtain ⟨_, _, _, rfl, _⟩ := h; rfl) | (obtain ⟨_, _, _, _, rfl, _⟩ := h; rfl) | (obtain ⟨_, _, _, _, _, rfl, _⟩ := h; rfl) | (obtain ⟨_, _, _, _, _, _, rfl, _⟩ := h; rfl) | (obtain ⟨_, _, _, _, _, _, _, rfl, _⟩ := h; rfl) | (obtain ⟨_, _, _, _, _, _, _, _, rfl, _⟩ := h; rfl) | (obtain ⟨_, _, _, _, _, _, _, _, _, rfl, _⟩ := h; rfl) | (obtain ⟨_, _, _, _, _, _, _, _, _, _, rfl, _⟩ := h; rfl) | (obtain ⟨_, _, _, _, _, _, _, _, _, _, _, rfl, _⟩ := h; rfl) | (obtain ⟨_, _, _, _, _, _, _, _, _, _, _, _, rfl, _⟩ := h; rfl) | (obtain ⟨_, _, _, _, _, _, _, _, _, _, _, _, _, rfl, _⟩ := h; rfl) | (obtain ⟨_, _, _, _, _, _, _, _, _, _, _, _, _, _, rfl, _⟩ := h; rfl) | (obtain ⟨_, _, _, _, _, _, _, _, _, _, _, _, _, _, _, rfl, _⟩ := h; rfl) | (obtain ⟨_, _, _, _, _, _, _, _, _, _, _, _, _, _, _, _, rfl, _⟩ := h; rfl)) (fun cdv A outer s H vs Q E hr h => ?_), hM, hm, hb⟩
  obtain ⟨D, s, dx, rows, en, rfl, hs, hD, hl, ha, hb, hrec, hen, hok, hwt, nsd, k, kx⟩ := h
  have D_recover := d_recover (P := P) (base := base) T
  have D_Disk_trim := d_Disk_trim (P := P) (base := base) T
  have D_Disk_sync := d_Disk_sync (P := P) (base := base) T
  have D_signs_of := d_signs_of (P := P) (base := base) T
  have l_Store := T.l_Store
  have n_Store_disk_kept := T.n_Store_disk_kept
  have n_Store_rows_list := T.n_Store_rows_list
  refine ⟨_, (pss_cons (ps_asg (pe_dfnS D_recover (hr.mono (by decide)) (by rfl) (takes_of rfl rfl rfl rfl) (pa_cons (pv 1) pa_nil)) (pg_tup (by rfl) (pgs_cons (pg_name (i := 2) sc_Store_init.nd rfl (.inl rfl)) (pgs_cons (pg_name (i := 3) sc_Store_init.nd rfl (.inl rfl)) (pgs_cons (pg_name (i := 4) sc_Store_init.nd rfl (.inl rfl)) pgs_nil)))))
      (pss_cons (ps_if (pt_cmpR (op_uEq hr.units) (pe_ix ix_seq (pv 3) pe_int (fun _ _ => rfl)) pe_str (nomark _)) (pss_one ps_never) pss_nil)
      (pss_cons (ps_if (pt_cmpR (op_uEq hr.units) (pe_ix ix_seq (pv 3) pe_int (fun _ _ => rfl)) pe_str (nomark _)) (pss_cons (ps_expr (pe_mth D_Disk_trim (hr.mono (by decide)) (pv 1) (pa_cons (pe_gs T.c_LOG) (pa_cons (pe_dfn D_signs_of (hr.mono (by decide)) (by rfl) (pa_cons (pv 2) pa_nil)) pa_nil))))
      (pss_one (ps_expr (pe_mth0 D_Disk_sync (hr.mono (by decide)) (pv 1))))) pss_nil)
      (pss_cons (ps_fld (pv 0) (pv 1) rfl)
      (pss_one (ps_fld (pv 0) (pv 2) rfl)))))), ?_⟩
  try dsimp only [cxOf, Cx.nox, Cx.wish]
  show (_ : TS) _ [some _, some _, none, none, none] _
  o_readsAll
  have hok' := recP_ok (pcs (gt D.now "log")) 0
  have hlen' := recP_len (pcs (gt D.now "log")) 0
  rw [hrec] at hok' hlen'
  dsimp only at hok' hlen'
  have s1 : s ≠ D.d1 := ne_of hs hD.h1 (by intro z; cases z)
  have s2 : s ≠ D.d2 := ne_of hs hD.h2 (by intro z; cases z)
  have sw : s ≠ D.wl := ne_of hs hD.hw (by intro z; cases z)
  have st : ∀ p ∈ D.wt, p.1 ≠ s := fun p m => ne_of (hD.ht p m) hs (by intro z; cases z)
  by_cases hn : (pcs (gt D.now "log")).length ≤ 2001
  case neg =>
    refine c_recX hD hl (by omega) ha hb fun d H1 fd e1 h1 => ?_
    exact kx (by omega) d H1 fd e1 h1
  replace k := k hn
  refine c_rec hD hl hn ha hb hrec fun H1 p a b hp hla hlb e1 h1 h2 h3 => ?_
  have as : s ≠ a := ne_of_none hs hla
  cases en with
  | spoilt n => exact absurd rfl (hen n)
  | whole =>
    change H1 b = some (.tup [.str "whole"]) at h2
    o_readsAll
    refine brF (by decide +kernel) ?_
    o_readsAll
    refine brF (by decide +kernel) ?_
    o_readsAll
    have oo : Off s H1 _ := ((off_refl s H1).upd (o := .ins Z.a_Store dx [("disk_kept", .ref D.d)])).upd (o := .ins Z.a_Store dx [("disk_kept", .ref D.d), ("rows_list", .ref a)])
    refine k _ D a hla (((Eg.Same.offs e1).put (by simp)).put (by simp)) (disk_off (hD.same e1) oo nsd s1 s2 sw st) rfl (fun _ => rfl) (fun h => absurd rfl h) (ne_of_none hD.hw hla).symm ⟨upd_same, ?_⟩
    rw [upd_ne as.symm, upd_ne as.symm]
    exact h1
  | cut n =>
    change H1 b = some (.tup [.str "cut", .int (n : Int)]) at h2
    have hd1 := (hD.same e1).hd
    o_readsAll
    refine brF (by decide +kernel) ?_
    o_readsAll
    refine brT (by simp) ?_
    o_readsAll
    refine c_sgo (.of h1) (by omega) hok' fun H2 e2 => ?_
    have hd2 := e2 _ _ hd1
    o_readsAll
    refine c_trim (hD.same (e1.trans e2)) hok hwt fun H3 p3 hp3 o3 hD3 => ?_
    have hd3 : H3 D.d = some (.ins _ D.dx [("power_now", .non), ("files_now", .ref D.d1), ("files_kept", .ref D.d2), ("waiting_list", .ref D.wl)]) := hD3.hd
    have hs3 : H3 s = some (.ins Z.a_Store dx []) := o3 _ _ (nn_cons s1 (nn_cons sw nn_nil)) (e2 _ _ (e1 _ _ hs))
    o_readsAll
    refine c_sync hD3 rfl fun H4 wl' hw4 o4 hD4 => ?_
    have hs4 : H4 s = some (.ins Z.a_Store dx []) := o4 _ _ (nn_cons nsd (nn_cons s2 nn_nil)) hs3
    o_readsAll
    have oo : Off s H4 _ := ((off_refl s H4).upd (o := .ins Z.a_Store dx [("disk_kept", .ref D.d)])).upd (o := .ins Z.a_Store dx [("disk_kept", .ref D.d), ("rows_list", .ref a)])
    have fw : H wl' = none := (e1.trans e2).free (Offs.free hw4 o3 (nn_cons (ne_of_none hD3.h1 hw4).symm (nn_cons (ne_of_none hD3.hw hw4).symm nn_nil)))
    have h3a : H3 a = some (.lst (rows.map fun r => .str (S r))) := o3 _ _ (nn_cons (ne_of_none hD.h1 hla).symm (nn_cons (ne_of_none hD.hw hla).symm nn_nil)) (e2 _ _ h1)
    have h4a : H4 a = some (.lst (rows.map fun r => .str (S r))) := o4 _ _ (nn_cons (ne_of_none hD.hd hla).symm (nn_cons (ne_of_none hD.h2 hla).symm nn_nil)) (o3 _ _ (nn_cons (ne_of_none hD.h1 hla).symm (nn_cons (ne_of_none hD.hw hla).symm nn_nil)) (e2 _ _ h1))
    have hoff : Offs [s, D.d, D.d1, D.d2, D.wl] H H4 := ((Eg.Same.offs (e1.trans e2)).more o3 (mf_cons (.inl (by simp)) (mf_cons (.inl (by simp)) mf_nil))).more o4 (mf_cons (.inl (by simp)) (mf_cons (.inl (by simp)) mf_nil))
    refine k _ _ a hla ((hoff.put (by simp)).put (by simp)) (disk_off hD4 oo nsd s1 s2 (ne_of hs4 hD4.hw (by intro z; cases z)) (fun _ h => nomatch h)) rfl (fun h => nomatch h) (fun _ => ⟨rfl, rfl, fw, rfl, rfl, rfl⟩) (ne_of_none h3a hw4) ⟨upd_same, ?_⟩
    rw [upd_ne as.symm, upd_ne as.symm]
    exact h4a
def sp_sapp (Z : Ad) : Sp := fun vs H Q E => ∃ (D : Dk) (s dx rl : Addr) (rows : List (List Nat)) (ws : List Nat), vs = [.ref s, .str (S ws)] ∧ DiskAt Z.a_Disk H D ∧ StoreAt Z.a_Store H s dx D.d rl rows ∧ rows.length ≤ 100000 ∧ ws.length ≤ 10000000 ∧ (∀ c ∈ ws, c ≤ 1114111) ∧
  (rows.length < 2000 → ws.length ≤ 2000 → OkF (doIt D.now (.w "log" (logL (rows.length + 1) ws ++ [10]))) ∧ D.wt.length < 100000 ∧ rl ≠ D.wl ∧ ∀ H' p, H p = none → Offs [D.d1, D.wl, rl] H H' → DiskAt Z.a_Disk H' { D with now := doIt D.now (.w "log" (logL (rows.length + 1) ws ++ [10])), wt := D.wt ++ [(p, .w "log" (logL (rows.length + 1) ws ++ [10]))] } → StoreAt Z.a_Store H' s dx D.d rl (rows ++ [ws]) → Q (.int ((rows.length + 1 : Nat) : Int)) H') ∧
  (2000 ≤ rows.length → ∀ d H', H d = none → Same H H' → H' d = some (.xd [("what", .str "log")]) → E (.ref Z.a_TooMany) (some d) H') ∧
  (rows.length < 2000 → 2000 < ws.length → ∀ d H', H d = none → Same H H' → H' d = some (.xd [("what", .str "signs")]) → E (.ref Z.a_TooMany) (some d) H')
theorem d_Store_append (T : Txt K w mg Z) : MthX P w K mg base 5 Z.a_Store "append" ["self", "words"] (sp_sapp Z) := by
  obtain ⟨f, fd, F, hm, hb⟩ := T.f_Store_append
  refine ⟨⟨f, fd, F.okX sc_Store_append (fun vs H Q E h => by first | (obtain ⟨rfl, _⟩ := h; rfl) | (obtain ⟨_, rfl, _⟩ := h; rfl) | (obtain ⟨_, _, rfl, _⟩ := h; rfl) | (obtain ⟨_, _, _, rfl, _⟩ := h; rfl) | (obtain ⟨_, _, _, _, rfl, _⟩ := h; rfl) | (obtain ⟨_, _, _, _, _, rfl, _⟩ := h; rfl) | (obtain ⟨_, _, _, _, _, _, rfl, _⟩ := h; rfl) | (obtain ⟨_, _, _, _, _, _, _, rfl, _⟩ := h; rfl) | (obtain ⟨_, _, _, _, _, _, _, _, rfl, _⟩ := h; rfl) | (obtain ⟨_, _, _, _, _, _, _, _, _, rfl, _⟩ := h; rfl) | (obtain ⟨_, _, _, _, _, _, _, _, _, _, rfl, _⟩ := h; rfl) | (obtain ⟨_, _, _, _, _, _, _, _, _, _, _, rfl, _⟩ := h; rfl) | (obtain ⟨_, _, _, _, _, _, _, _, _, _, _, _, rfl, _⟩ := h; rfl) | (obtain ⟨_, _, _, _, _, _, _, _, _, _, _, _, _, rfl, _⟩ := h; rfl) | (obtain ⟨_, _, _, _, _, _, _, _, _, _, _, _, _, _, rfl, _⟩ := h; rfl) | (obtain ⟨_, _, _, _, _, _, _, _, _, _, _, _, _, _, _, rfl, _⟩ := h; rfl) | (obtain ⟨_, _, _, _, _, _, _, _, _, _, _, _, _, _, _, _, rfl, _⟩ := h; rfl)) (fun cdv A outer s H vs Q E hr h => ?_), hm, hb⟩, T.l_Store⟩
  obtain ⟨D, s, dx, rl, rows, ws, rfl, hD, ⟨hs, hr'⟩, hrb, hwb, hc, k, kx, ky⟩ := h
  have hLim := T.k_LIMITS_log
  have hd := hD.hd
  have n1 : rl ≠ D.d := ne_of hr' hd (by intro z; cases z)
  have n2 : rl ≠ D.d1 := ne_of hr' hD.h1 (by intro z; cases z)
  have n3 : rl ≠ D.d2 := ne_of hr' hD.h2 (by intro z; cases z)
  have n4 : s ≠ D.d1 := ne_of hs hD.h1 (by intro z; cases z)
  have n5 : s ≠ D.wl := ne_of hs hD.hw (by intro z; cases z)
  have n6 : s ≠ rl := ne_of hs hr' (by intro z; cases z)
  have D_bound := d_bound (P := P) (base := base) T
  have D_Disk_write := d_Disk_write (P := P) (base := base) T
  have D_log_line := d_log_line (P := P) (base := base) T
  have l_Store := T.l_Store
  have n_Store_disk_kept := T.n_Store_disk_kept
  have n_Store_rows_list := T.n_Store_rows_list
  refine ⟨_, (pss_cons (ps_expr (pe_dfnS D_bound (hr.mono (by decide)) (by rfl) (takes_of rfl rfl rfl rfl) (pa_cons pe_str (pa_cons (pe_op op_uAdd (pe_callB call_uLen (by rfl) T.b_len bt_len (pa_cons (pe_fld (pv 0) rfl) pa_nil)) pe_int) pa_nil))))
      (pss_cons (ps_set (i := 2) sc_Store_append.nd rfl (.inl rfl) (pe_op op_uAdd (pe_callB call_uLen (by rfl) T.b_len bt_len (pa_cons (pe_fld (pv 0) rfl) pa_nil)) pe_int))
      (pss_cons (ps_expr (pe_mth D_Disk_write (hr.mono (by decide)) (pe_fld (pv 0) rfl) (pa_cons (pe_gs T.c_LOG) (pa_cons (pe_op op_uAdd (pe_dfnS D_log_line (hr.mono (by decide)) (by rfl) (takes_of rfl rfl rfl rfl) (pa_cons (pv 2) (pa_cons (pv 1) pa_nil))) (pe_s [10] (by decide +kernel))) pa_nil))))
      (pss_cons (ps_expr (pe_bm PySem.F.plainAttrs_list PySem.F.slot_list_append PySem.F.type_list_append mt_append (pe_fld (pv 0) rfl) (pa_cons (pv 1) pa_nil)))
      (pss_one (ps_ret (pv 2))))))), ?_⟩
  try dsimp only [cxOf, Cx.nox, Cx.wish]
  show (_ : TS) _ [some _, some _, none] _
  o_readsAll
  rw [List.length_map]
  by_cases hn : rows.length < 2000
  case neg =>
    refine c_boundX hLim (by omega) T.m_TOLD_log fun d H1 fd e1 h1 => ?_
    exact kx (by omega) d H1 fd e1 h1
  refine c_bound hLim (by omega) fun H1 e1 => ?_
  o_readsAll
  rw [List.length_map, show ((rows.length : Int) + 1) = ((rows.length + 1 : Nat) : Int) from rfl]
  o_readsAll
  by_cases hl : ws.length ≤ 2000
  case neg =>
    refine c_lineX (by omega) (by omega) hwb hc fun d H2 fd e2 h2 => ?_
    exact ky hn (by omega) d H2 (e1.free fd) (e1.trans e2) h2
  obtain ⟨hok, hwt, nrw, k⟩ := k hn hl
  have hll := logL_len (n := rows.length + 1) (w := ws) (by omega) hl
  refine c_line (by omega) hl hc fun H2 e2 => ?_
  o_readsAll
  rw [S_cat]
  refine c_write (hD.same (e1.trans e2)) (by simp) (by rw [List.length_append]; show _ + 1 ≤ _; omega) hok hwt fun H3 p hp o3 hD3 => ?_
  have hs3 := o3 _ _ (nn_cons n4 (nn_cons n5 nn_nil)) (e2 _ _ (e1 _ _ hs))
  have hr3 := o3 _ _ (nn_cons n2 (nn_cons nrw nn_nil)) (e2 _ _ (e1 _ _ hr'))
  have hrl : (rows.map fun r => V.str (S r)).length < sizeLine := by rw [List.length_map, sizeLine_eq]; omega
  o_readsAll
  have hoff : Offs [D.d1, D.wl, rl] H H3 := (Eg.Same.offs (e1.trans e2)).more o3 (mf_cons (.inl (by simp)) (mf_cons (.inl (by simp)) mf_nil))
  refine k _ p ((e1.trans e2).free hp) (hoff.put (by simp)) (disk_off hD3 (off_refl rl H3).upd n1 n2 n3 nrw (fun q m => ne_of (hD3.ht q m) hr3 (by intro z; cases z))) ⟨?_, ?_⟩
  · rw [upd_ne n6]; exact hs3
  · rw [upd_same, List.map_append]; rfl
def sp_ssync (CD CS : Addr) : Sp := fun vs H Q _ => ∃ (D : Dk) (s dx rl : Addr) (rows : List (List Nat)), vs = [.ref s] ∧ DiskAt CD H D ∧ StoreAt CS H s dx D.d rl rows ∧ ∀ H' wl', H wl' = none → Offs [D.d, D.d2] H H' → DiskAt CD H' { D with kept := D.now, wl := wl', wt := [] } → Q .non H'
theorem d_Store_sync (T : Txt K w mg Z) : Mth P w K mg base 3 Z.a_Store "sync" ["self"] (sp_ssync Z.a_Disk Z.a_Store) := by
  obtain ⟨f, fd, F, hm, hb⟩ := T.f_Store_sync
  refine ⟨⟨f, fd, F.ok sc_Store_sync (fun vs H Q E h => by first | (obtain ⟨rfl, _⟩ := h; rfl) | (obtain ⟨_, rfl, _⟩ := h; rfl) | (obtain ⟨_, _, rfl, _⟩ := h; rfl) | (obtain ⟨_, _, _, rfl, _⟩ := h; rfl) | (obtain ⟨_, _, _, _, rfl, _⟩ := h; rfl) | (obtain ⟨_, _, _, _, _, rfl, _⟩ := h; rfl) | (obtain ⟨_, _, _, _, _, _, rfl, _⟩ := h; rfl) | (obtain ⟨_, _, _, _, _, _, _, rfl, _⟩ := h; rfl) | (obtain ⟨_, _, _, _, _, _, _, _, rfl, _⟩ := h; rfl) | (obtain ⟨_, _, _, _, _, _, _, _, _, rfl, _⟩ := h; rfl) | (obtain ⟨_, _, _, _, _, _, _, _, _, _, rfl, _⟩ := h; rfl) | (obtain ⟨_, _, _, _, _, _, _, _, _, _, _, rfl, _⟩ := h; rfl) | (obtain ⟨_, _, _, _, _, _, _, _, _, _, _, _, rfl, _⟩ := h; rfl) | (obtain ⟨_, _, _, _, _, _, _, _, _, _, _, _, _, rfl, _⟩ := h; rfl) | (obtain ⟨_, _, _, _, _, _, _, _, _, _, _, _, _, _, rfl, _⟩ := h; rfl) | (obtain ⟨_, _, _, _, _, _, _, _, _, _, _, _, _, _, _, rfl, _⟩ := h; rfl) | (obtain ⟨_, _, _, _, _, _, _, _, _, _, _, _, _, _, _, _, rfl, _⟩ := h; rfl)) (fun cdv A outer s H vs Q E hr h => ?_), hm, hb⟩, T.l_Store⟩
  obtain ⟨D, s, dx, rl, rows, rfl, hD, ⟨hs, hr'⟩, k⟩ := h
  have hd := hD.hd
  have D_Disk_sync := d_Disk_sync (P := P) (base := base) T
  have l_Store := T.l_Store
  have n_Store_disk_kept := T.n_Store_disk_kept
  refine ⟨_, (pss_one (ps_expr (pe_mth0 D_Disk_sync (hr.mono (by decide)) (pe_fld (pv 0) rfl)))), ?_⟩
  try dsimp only [cxOf, Cx.nox, Cx.wish]
  show (_ : TS) _ [some _] _
  o_readsAll
  refine c_sync hD rfl fun H1 wl' hw o1 hD1 => ?_
  o_readsAll
  exact k _ _ hw o1 hD1
def sp_srows (CS : Addr) : Sp := fun vs H Q _ => ∃ (s dx d rl : Addr) (rows : List (List Nat)), vs = [.ref s] ∧ StoreAt CS H s dx d rl rows ∧ ∀ H' p, H p = none → Same H H' → H' p = some (.lst (rows.map fun r => .str (S r))) → Q (.ref p) H'
theorem d_Store_rows (T : Txt K w mg Z) : Mth P w K mg base 1 Z.a_Store "rows" ["self"] (sp_srows Z.a_Store) := by
  obtain ⟨f, fd, F, hm, hb⟩ := T.f_Store_rows
  refine ⟨⟨f, fd, F.ok sc_Store_rows (fun vs H Q E h => by first | (obtain ⟨rfl, _⟩ := h; rfl) | (obtain ⟨_, rfl, _⟩ := h; rfl) | (obtain ⟨_, _, rfl, _⟩ := h; rfl) | (obtain ⟨_, _, _, rfl, _⟩ := h; rfl) | (obtain ⟨_, _, _, _, rfl, _⟩ := h; rfl) | (obtain ⟨_, _, _, _, _, rfl, _⟩ := h; rfl) | (obtain ⟨_, _, _, _, _, _, rfl, _⟩ := h; rfl) | (obtain ⟨_, _, _, _, _, _, _, rfl, _⟩ := h; rfl) | (obtain ⟨_, _, _, _, _, _, _, _, rfl, _⟩ := h; rfl) | (obtain ⟨_, _, _, _, _, _, _, _, _, rfl, _⟩ := h; rfl) | (obtain ⟨_, _, _, _, _, _, _, _, _, _, rfl, _⟩ := h; rfl) | (obtain ⟨_, _, _, _, _, _, _, _, _, _, _, rfl, _⟩ := h; rfl) | (obtain ⟨_, _, _, _, _, _, _, _, _, _, _, _, rfl, _⟩ := h; rfl) | (obtain ⟨_, _, _, _, _, _, _, _, _, _, _, _, _, rfl, _⟩ := h; rfl) | (obtain ⟨_, _, _, _, _, _, _, _, _, _, _, _, _, _, rfl, _⟩ := h; rfl) | (obtain ⟨_, _, _, _, _, _, _, _, _, _, _, _, _, _, _, rfl, _⟩ := h; rfl) | (obtain ⟨_, _, _, _, _, _, _, _, _, _, _, _, _, _, _, _, rfl, _⟩ := h; rfl)) (fun cdv A outer s H vs Q E hr h => ?_), hm, hb⟩, T.l_Store⟩
  obtain ⟨s, dx, d, rl, rows, rfl, ⟨hs, hr'⟩, k⟩ := h
  have l_Store := T.l_Store
  have n_Store_rows_list := T.n_Store_rows_list
  refine ⟨_, (pss_one (ps_ret (pe_callTy call_uList (by rfl) T.b_list bt_list (pa_cons (pe_fld (pv 0) rfl) pa_nil)))), ?_⟩
  try dsimp only [cxOf, Cx.nox, Cx.wish]
  show (_ : TS) _ [some _] _
  o_readsAll
  rename_i p H1 hp e1 h1
  exact k _ p hp e1 h1
end
end L04

namespace L04
open SX Sp Lg TL
section
variable {P : Program} {w : World} {K : PySem.W.Frag} {mg : Str → Option Value} {base : Heap} {Z : Ad}
/-- the same data, so deep at most -/
def Alk (H : Hp) : Nat → V → V → Prop
  | 0, _, _ => False
  | n + 1, x, y => (x = .non ∧ y = .non) ∨ (∃ i : Int, x = .int i ∧ y = .int i) ∨ (∃ s : Str, x = .str s ∧ y = .str s) ∨
    (∃ (a b : Addr) (xs ys : List V), x = .ref a ∧ y = .ref b ∧ H a = some (.tup xs) ∧ H b = some (.tup ys) ∧ xs.length = ys.length ∧ ys.length ≤ 1000000 ∧ ∀ (i : Nat) (u v : V), xs[i]? = some u → ys[i]? = some v → Alk H n u v) ∨
    (∃ (a b : Addr) (xs ys : List V), x = .ref a ∧ y = .ref b ∧ H a = some (.lst xs) ∧ H b = some (.lst ys) ∧ xs.length = ys.length ∧ ys.length ≤ 1000000 ∧ ∀ (i : Nat) (u v : V), xs[i]? = some u → ys[i]? = some v → Alk H n u v)
theorem Alk.same {H H' : Hp} (e : Same H H') : ∀ {n : Nat} {x y : V}, Alk H n x y → Alk H' n x y
  | 0, x, y, h => h.elim
  | n + 1, x, y, h => by
    rcases h with h | h | h | ⟨a, b, xs, ys, h1, h2, h3, h4, h5, h6, h7⟩ | ⟨a, b, xs, ys, h1, h2, h3, h4, h5, h6, h7⟩
    · exact .inl h
    · exact .inr (.inl h)
    · exact .inr (.inr (.inl h))
    · exact .inr (.inr (.inr (.inl ⟨a, b, xs, ys, h1, h2, e _ _ h3, e _ _ h4, h5, h6, fun i u v p q => Alk.same e (h7 i u v p q)⟩)))
    · exact .inr (.inr (.inr (.inr ⟨a, b, xs, ys, h1, h2, e _ _ h3, e _ _ h4, h5, h6, fun i u v p q => Alk.same e (h7 i u v p q)⟩)))
def sp_mat (n : Nat) : Sp := fun vs H Q _ => ∃ x y, vs = [x, y] ∧ Alk H n x y ∧ ∀ H', Same H H' → Q (.bl true) H'
theorem d_law_matches (T : Txt K w mg Z) : ∀ n, Dfn P w K mg base (n + 1) "_law_matches" ["answer", "due"] (sp_mat n)
  | 0 => by
    obtain ⟨f, fd, F, hm, hb⟩ := T.f_law_matches
    refine ⟨f, fd, F.ok sc_law_matches (fun vs H Q E h => by first | (obtain ⟨rfl, _⟩ := h; rfl) | (obtain ⟨_, rfl, _⟩ := h; rfl) | (obtain ⟨_, _, rfl, _⟩ := h; rfl) | (obtain ⟨_, _, _, rfl, _⟩ := h; rfl) | (obtain ⟨_, _, _, _, rfl, _⟩ := h; rfl) | (obtain ⟨_, _, _, _, _, rfl, _⟩ := h; rfl) | (obtain ⟨_, _, _, _, _, _, rfl, _⟩ := h; rfl) | (obtain ⟨_, _, _, _, _, _, _, rfl, _⟩ := h; rfl) | (obtain ⟨_, _, _, _, _, _, _, _, rfl, _⟩ := h; rfl) | (obtain ⟨_, _, _, _, _, _, _, _, _, rfl, _⟩ := h; rfl) | (obtain ⟨_, _, _, _, _, _, _, _, _, _, rfl, _⟩ := h; rfl) | (obtain ⟨_, _, _, _, _, _, _, _, _, _, _, rfl, _⟩ := h; rfl) | (obtain ⟨_, _, _, _, _, _, _, _, _, _, _, _, rfl, _⟩ := h; rfl) | (obtain ⟨_, _, _, _, _, _, _, _, _, _, _, _, _, rfl, _⟩ := h; rfl) | (obtain ⟨_, _, _, _, _, _, _, _, _, _, _, _, _, _, rfl, _⟩ := h; rfl) | (obtain ⟨_, _, _, _, _, _, _, _, _, _, _, _, _, _, _, rfl, _⟩ := h; rfl) | (obtain ⟨_, _, _, _, _, _, _, _, _, _, _, _, _, _, _, _, rfl, _⟩ := h; rfl)) (fun cdv A outer s H vs Q E hr h => ?_), hm, F.kp, hb⟩
    obtain ⟨x, y, rfl, h, k⟩ := h
    exact h.elim
  | n + 1 => by
    have D_law_matches := d_law_matches T n
    obtain ⟨f, fd, F, hm, hb⟩ := T.f_law_matches
    refine ⟨f, fd, F.ok sc_law_matches (fun vs H Q E h => by first | (obtain ⟨rfl, _⟩ := h; rfl) | (obtain ⟨_, rfl, _⟩ := h; rfl) | (obtain ⟨_, _, rfl, _⟩ := h; rfl) | (obtain ⟨_, _, _, rfl, _⟩ := h; rfl) | (obtain ⟨_, _, _, _, rfl, _⟩ := h; rfl) | (obtain ⟨_, _, _, _, _, rfl, _⟩ := h; rfl) | (obtain ⟨_, _, _, _, _, _, rfl, _⟩ := h; rfl) | (obtain ⟨_, _, _, _, _, _, _, rfl, _⟩ := h; rfl) | (obtain ⟨_, _, _, _, _, _, _, _, rfl, _⟩ := h; rfl) | (obtain ⟨_, _, _, _, _, _, _, _, _, rfl, _⟩ := h; rfl) | (obtain ⟨_, _, _, _, _, _, _, _, _, _, rfl, _⟩ := h; rfl) | (obtain ⟨_, _, _, _, _, _, _, _, _, _, _, rfl, _⟩ := h; rfl) | (obtain ⟨_, _, _, _, _, _, _, _, _, _, _, _, rfl, _⟩ := h; rfl) | (obtain ⟨_, _, _, _, _, _, _, _, _, _, _, _, _, rfl, _⟩ := h; rfl) | (obtain ⟨_, _, _, _, _, _, _, _, _, _, _, _, _, _, rfl, _⟩ := h; rfl) | (obtain ⟨_, _, _, _, _, _, _, _, _, _, _, _, _, _, _, rfl, _⟩ := h; rfl) | (obtain ⟨_, _, _, _, _, _, _, _, _, _, _, _, _, _, _, _, rfl, _⟩ := h; rfl)) (fun cdv A outer s H vs Q E hr h => ?_), hm, F.kp, hb⟩
    obtain ⟨x, y, rfl, h, k⟩ := h
    refine ⟨_, (pss_cons (ps_if (PW.pt (pw_or (pt_cmpR op_uIsN (pv 1) pe_non (nomark _)) (pw_or1 (pt_cmpR op_uIsN (pv 0) pe_non (nomark _))))) (pss_one (ps_ret (pe_and (pe_cmpR op_uIsN (pv 1) pe_non (nomark _)) (pe_one (pe_cmpR op_uIsN (pv 0) pe_non (nomark _)))))) pss_nil)
      (pss_cons (ps_if (PW.pt (pw_or (pt_u (pe_callB call_isi (by rfl) T.b_isinstance bt_isinstance (pa_cons (pv 1) (pa_cons (pe_bltn (v := .ty "bool") (by rfl) T.b_bool bt_bool rfl) pa_nil)))) (pw_or1 (pt_u (pe_callB call_isi (by rfl) T.b_isinstance bt_isinstance (pa_cons (pv 0) (pa_cons (pe_bltn (v := .ty "bool") (by rfl) T.b_bool bt_bool rfl) pa_nil))))))) (pss_one (ps_ret (pe_and (pe_callB call_isi (by rfl) T.b_isinstance bt_isinstance (pa_cons (pv 1) (pa_cons (pe_bltn (v := .ty "bool") (by rfl) T.b_bool bt_bool rfl) pa_nil))) (pe_and (pe_callB call_isi (by rfl) T.b_isinstance bt_isinstance (pa_cons (pv 0) (pa_cons (pe_bltn (v := .ty "bool") (by rfl) T.b_bool bt_bool rfl) pa_nil))) (pe_one (pe_cmpR (op_uEq hr.units) (pv 0) (pv 1) (nomark _))))))) pss_nil)
      (pss_cons (ps_if (pt_u (pe_callB call_isi (by rfl) T.b_isinstance bt_isinstance (pa_cons (pv 1) (pa_cons (pe_bltn (v := .ty "int") (by rfl) T.b_int bt_int rfl) pa_nil)))) (pss_one (ps_ret (pe_and (pe_callB call_isi (by rfl) T.b_isinstance bt_isinstance (pa_cons (pv 0) (pa_cons (pe_bltn (v := .ty "int") (by rfl) T.b_int bt_int rfl) pa_nil))) (pe_one (pe_cmpR (op_uEq hr.units) (pv 0) (pv 1) (nomark _)))))) pss_nil)
      (pss_cons (ps_if (pt_u (pe_callB call_isi (by rfl) T.b_isinstance bt_isinstance (pa_cons (pv 1) (pa_cons (pe_bltn (v := .ty "str") (by rfl) T.b_str bt_str rfl) pa_nil)))) (pss_one (ps_ret (pe_and (pe_callB call_isi (by rfl) T.b_isinstance bt_isinstance (pa_cons (pv 0) (pa_cons (pe_bltn (v := .ty "str") (by rfl) T.b_str bt_str rfl) pa_nil))) (pe_one (pe_cmpR (op_uEq hr.units) (pv 0) (pv 1) (nomark _)))))) pss_nil)
      (pss_cons (ps_if (PW.pt (pw_and (pt_u (pe_callB call_isi (by rfl) T.b_isinstance bt_isinstance (pa_cons (pv 1) (pa_cons (pe_bltn (v := .ty "tuple") (by rfl) T.b_tuple bt_tuple rfl) pa_nil)))) (pw_and1 (pt_not (pt_u (pe_callB call_isi (by rfl) T.b_isinstance bt_isinstance (pa_cons (pv 0) (pa_cons (pe_bltn (v := .ty "tuple") (by rfl) T.b_tuple bt_tuple rfl) pa_nil)))))))) (pss_one (ps_ret pe_bl)) pss_nil)
      (pss_cons (ps_if (PW.pt (pw_and (pt_u (pe_callB call_isi (by rfl) T.b_isinstance bt_isinstance (pa_cons (pv 1) (pa_cons (pe_bltn (v := .ty "list") (by rfl) T.b_list bt_list rfl) pa_nil)))) (pw_and1 (pt_not (pt_u (pe_callB call_isi (by rfl) T.b_isinstance bt_isinstance (pa_cons (pv 0) (pa_cons (pe_bltn (v := .ty "list") (by rfl) T.b_list bt_list rfl) pa_nil)))))))) (pss_one (ps_ret pe_bl)) pss_nil)
      (pss_cons (ps_if (pt_cmpR (op_uNe hr.units) (pe_callB call_uLen (by rfl) T.b_len bt_len (pa_cons (pv 0) pa_nil)) (pe_callB call_uLen (by rfl) T.b_len bt_len (pa_cons (pv 1) pa_nil)) (nomark _)) (pss_one (ps_ret pe_bl)) pss_nil)
      (pss_cons (ps_for PassesOwn.never rfl (pi_range1 (by rfl) T.b_range (pa_cons (pe_callB call_uLen (by rfl) T.b_len bt_len (pa_cons (pv 1) pa_nil)) pa_nil)) (pg_name (i := 2) sc_law_matches.nd rfl (.inl rfl))
        (pss_one (ps_if (pt_not (pt_u (pe_dfn D_law_matches (hr.mono (by omega)) (by rfl) (pa_cons (pe_ix ix_seq (pv 0) (pv 2) (fun _ _ => rfl)) (pa_cons (pe_ix ix_seq (pv 1) (pv 2) (fun _ _ => rfl)) pa_nil))))) (pss_one (ps_ret pe_bl)) pss_nil)))
      (pss_one (ps_ret pe_bl)))))))))), ?_⟩
    try dsimp only [cxOf, Cx.nox, Cx.wish]
    show (_ : TS) _ [some _, some _, none] _
    rcases h with ⟨rfl, rfl⟩ | ⟨i, rfl, rfl⟩ | ⟨z, rfl, rfl⟩ | ⟨a, b, xs, ys, rfl, rfl, h1, h2, hl, hs, hk⟩ | ⟨a, b, xs, ys, rfl, rfl, h1, h2, hl, hs, hk⟩
    · o_readsAll
      exact k _ (Same.refl _)
    · o_readsAll
      rw [decide_eq_true rfl]
      exact k _ (Same.refl _)
    · o_readsAll
      rw [decide_eq_true rfl]
      exact k _ (Same.refl _)
    · o_readsAll
      refine brn (fun h => absurd (by rw [hl]) h) (fun _ => ?_)
      o_readsAll
      refine f_rng (fun i σ' H' => ∃ x, σ' = [some (.ref a), some (.ref b), x] ∧ Same H H') ⟨_, rfl, Same.refl _⟩ ?_ ?_
      · rintro i σ' H1 hi ⟨x, rfl, e1⟩
        have hi' : i < ys.length := by omega
        have hx : xs[i]? = some (xs[i]'(by omega)) := List.getElem?_eq_getElem _
        have hy : ys[i]? = some (ys[i]'hi') := List.getElem?_eq_getElem _
        generalize xs[i]'(by omega) = u at hx
        generalize ys[i]'hi' = v at hy
        rw [Int.zero_add]
        o_readsAll
        refine g_ixT (.of (e1 _ _ h1)) (atI_nat hx) ?_
        o_readsAll
        refine g_ixT (.of (e1 _ _ h2)) (atI_nat hy) ?_
        o_readsAll
        refine ⟨_, _, rfl, (hk i u v hx hy).same e1, fun H2 e2 => ?_⟩
        o_readsAll
        exact ⟨_, rfl, e1.trans e2⟩
      · rintro σ' H1 ⟨x, rfl, e1⟩
        o_readsAll
        exact k _ e1
    · o_readsAll
      refine brn (fun h => absurd (by rw [hl]) h) (fun _ => ?_)
      o_readsAll
      refine f_rng (fun i σ' H' => ∃ x, σ' = [some (.ref a), some (.ref b), x] ∧ Same H H') ⟨_, rfl, Same.refl _⟩ ?_ ?_
      · rintro i σ' H1 hi ⟨x, rfl, e1⟩
        have hi' : i < ys.length := by omega
        have hx : xs[i]? = some (xs[i]'(by omega)) := List.getElem?_eq_getElem _
        have hy : ys[i]? = some (ys[i]'hi') := List.getElem?_eq_getElem _
        generalize xs[i]'(by omega) = u at hx
        generalize ys[i]'hi' = v at hy
        rw [Int.zero_add]
        o_readsAll
        refine g_ixL (.of (e1 _ _ h1)) (atI_nat hx) ?_
        o_readsAll
        refine g_ixL (.of (e1 _ _ h2)) (atI_nat hy) ?_
        o_readsAll
        refine ⟨_, _, rfl, (hk i u v hx hy).same e1, fun H2 e2 => ?_⟩
        o_readsAll
        exact ⟨_, rfl, e1.trans e2⟩
      · rintro σ' H1 ⟨x, rfl, e1⟩
        o_readsAll
        exact k _ e1
end
end L04

namespace L04
open SX Sp Lg TL
section
variable {P : Program} {w : World} {K : PySem.W.Frag} {mg : Str → Option Value} {base : Heap} {Z : Ad}
theorem c_smake {D : Dk} {rows : List (List Nat)} {en : En} {H : Hp} {Q : VK} {E : XK} (hD : DiskAt Z.a_Disk H D) (hl : (gt D.now "log").length ≤ 9000000) (hn : (pcs (gt D.now "log")).length ≤ 2001) (ha : gt D.now "snapa" = []) (hb : gt D.now "snapb" = []) (hr : recP 0 (pcs (gt D.now "log")) = (rows, en)) (he : ∀ n, en ≠ .spoilt n) (ho : OkF (doIt D.now (.t "log" (logT 0 rows).length))) (hw : D.wt.length < 100000)
    (k : ∀ H' D' s dx rl, H s = none → H rl = none → Offs [D.d, D.d1, D.d2, D.wl] H H' → DiskAt Z.a_Disk H' D' → D'.d = D.d → (en = .whole → D' = D) → (en ≠ .whole → D'.d1 = D.d1 ∧ D'.d2 = D.d2 ∧ H D'.wl = none ∧ D'.now = doIt D.now (.t "log" (logT 0 rows).length) ∧ D'.kept = doIt D.now (.t "log" (logT 0 rows).length) ∧ D'.wt = []) → rl ≠ D'.wl → StoreAt Z.a_Store H' s dx D.d rl rows → Q (.ref s) H') : gMake Z.a_Store (sp_sinit Z) E [.ref D.d] H Q := by
  intro x dx hx hdx hne
  have e0 : Same H (upd (upd H dx (.own x)) x (.ins Z.a_Store dx [])) := fun b u q => by rw [upd_ne (ne_of_none q hx), upd_ne (ne_of_none q hdx)]; exact q
  refine ⟨D, x, dx, rows, en, rfl, upd_same, hD.same e0, hl, ha, hb, hr, he, ho, hw, (ne_of_none hD.hd hx).symm, fun _ H' D' rl frl o hD' h1 h2 h3 nw hS => ⟨rfl, ?_⟩, fun h => absurd h (by omega)⟩
  refine k H' D' x dx rl hx (upd_none (upd_none frl)) ((Eg.Same.offs e0).more o (mf_cons (.inr hx) (mf_cons (.inl (by simp)) (mf_cons (.inl (by simp)) (mf_cons (.inl (by simp)) (mf_cons (.inl (by simp)) mf_nil)))))) hD' h1 h2 (fun h => ?_) nw hS
  obtain ⟨a, b, c, d⟩ := h3 h
  exact ⟨a, b, upd_none (upd_none c), d⟩
theorem c_smakeX {D : Dk} {rows : List (List Nat)} {en : En} {H : Hp} {Q : VK} {E : XK} (hD : DiskAt Z.a_Disk H D) (hl : (gt D.now "log").length ≤ 9000000) (hn : 2001 < (pcs (gt D.now "log")).length) (ha : gt D.now "snapa" = []) (hb : gt D.now "snapb" = []) (hr : recP 0 (pcs (gt D.now "log")) = (rows, en)) (he : ∀ n, en ≠ .spoilt n) (ho : OkF (doIt D.now (.t "log" (logT 0 rows).length))) (hw : D.wt.length < 100000)
    (k : ∀ d H', H d = none → Same H H' → H' d = some (.xd [("what", .str "log")]) → E (.ref Z.a_TooMany) (some d) H') : gMake Z.a_Store (sp_sinit Z) E [.ref D.d] H Q := by
  intro x dx hx hdx hne
  have e0 : Same H (upd (upd H dx (.own x)) x (.ins Z.a_Store dx [])) := fun b u q => by rw [upd_ne (ne_of_none q hx), upd_ne (ne_of_none q hdx)]; exact q
  exact ⟨D, x, dx, rows, en, rfl, upd_same, hD.same e0, hl, ha, hb, hr, he, ho, hw, (ne_of_none hD.hd hx).symm, fun h => absurd h (by omega), fun _ d H' hd e1 h1 => k d H' (upd_none (upd_none hd)) (e0.trans e1) h1⟩
theorem c_sapp {s dx rl d : Addr} {D : Dk} {rows : List (List Nat)} {ws : List Nat} {H : Hp} {Q : VK} {E : XK} (hD : DiskAt Z.a_Disk H D) (e : D.d = d) (hs : StoreAt Z.a_Store H s dx d rl rows) (hn : rows.length < 2000) (hw : okW ws = true) (ho : OkF (doIt D.now (.w "log" (lnT rows.length ws)))) (hl : D.wt.length < 100000) (nw : rl ≠ D.wl)
    (k : ∀ H' p, H p = none → Offs [D.d1, D.wl, rl] H H' → DiskAt Z.a_Disk H' { D with now := doIt D.now (.w "log" (lnT rows.length ws)), wt := D.wt ++ [(p, .w "log" (lnT rows.length ws))] } → StoreAt Z.a_Store H' s dx d rl (rows ++ [ws]) → Q (.int ((rows.length + 1 : Nat) : Int)) H') : sp_sapp Z [.ref s, .str (S ws)] H Q E := by
  subst e
  exact ⟨D, s, dx, rl, rows, ws, rfl, hD, hs, by omega, by have := okW_len hw; omega, fun c hc => by have := (okW_sign hw c hc).2; omega, fun _ _ => ⟨ho, hl, nw, k⟩, fun h => absurd h (by omega), fun _ h => absurd h (by have := okW_len hw; omega)⟩
theorem c_sappX {s dx rl d : Addr} {D : Dk} {rows : List (List Nat)} {ws : List Nat} {H : Hp} {Q : VK} {E : XK} (hD : DiskAt Z.a_Disk H D) (e : D.d = d) (hs : StoreAt Z.a_Store H s dx d rl rows) (hn : rows.length < 2000) (hl : 2000 < ws.length) (hl2 : ws.length ≤ 10000000) (hc : ∀ c ∈ ws, c ≤ 1114111) (k : ∀ d H', H d = none → Same H H' → H' d = some (.xd [("what", .str "signs")]) → E (.ref Z.a_TooMany) (some d) H') : sp_sapp Z [.ref s, .str (S ws)] H Q E := by
  subst e
  exact ⟨D, s, dx, rl, rows, ws, rfl, hD, hs, by omega, hl2, hc, fun _ h => absurd h (by omega), fun h => absurd h (by omega), fun _ _ => k⟩
theorem c_sappL {s dx rl d : Addr} {D : Dk} {rows : List (List Nat)} {ws : List Nat} {H : Hp} {Q : VK} {E : XK} (hD : DiskAt Z.a_Disk H D) (e : D.d = d) (hs : StoreAt Z.a_Store H s dx d rl rows) (hn : 2000 ≤ rows.length) (hn2 : rows.length ≤ 100000) (hl2 : ws.length ≤ 10000000) (hc : ∀ c ∈ ws, c ≤ 1114111) (k : ∀ d H', H d = none → Same H H' → H' d = some (.xd [("what", .str "log")]) → E (.ref Z.a_TooMany) (some d) H') : sp_sapp Z [.ref s, .str (S ws)] H Q E := by
  subst e
  exact ⟨D, s, dx, rl, rows, ws, rfl, hD, hs, by omega, hl2, hc, fun h => absurd h (by omega), fun _ => k, fun h => absurd h (by omega)⟩
theorem c_srows {C s dx d rl : Addr} {rows : List (List Nat)} {H : Hp} {Q : VK} {E : XK} (h : StoreAt C H s dx d rl rows) (k : ∀ H' p, H p = none → Same H H' → H' p = some (.lst (rows.map fun r => .str (S r))) → Q (.ref p) H') : sp_srows C [.ref s] H Q E := ⟨s, dx, d, rl, rows, rfl, h, k⟩
theorem c_ssync {CD CS s dx rl : Addr} {D : Dk} {rows : List (List Nat)} {H : Hp} {Q : VK} {E : XK} (hD : DiskAt CD H D) (h : StoreAt CS H s dx D.d rl rows) (k : ∀ H' wl', H wl' = none → Offs [D.d, D.d2] H H' → DiskAt CD H' { D with kept := D.now, wl := wl', wt := [] } → Q .non H') : sp_ssync CD CS [.ref s] H Q E := ⟨D, s, dx, rl, rows, rfl, hD, h, k⟩
theorem c_readE {C d : Addr} {D : Dk} {f : Str} {H : Hp} {Q : VK} {E : XK} (hD : DiskAt C H D) (e : D.d = d) (k : Q (.str (S (gt D.now f))) H) : sp_read C [.ref d, .str f] H Q E := by subst e; exact ⟨D, f, rfl, hD, k⟩
theorem c_recE {d : Addr} {D : Dk} {rows : List (List Nat)} {en : En} {H : Hp} {Q : VK} {E : XK} (hD : DiskAt Z.a_Disk H D) (e : D.d = d) (hl : (gt D.now "log").length ≤ 9000000) (hn : (pcs (gt D.now "log")).length ≤ 2001) (ha : gt D.now "snapa" = []) (hb : gt D.now "snapb" = []) (hr : recP 0 (pcs (gt D.now "log")) = (rows, en)) (k : ∀ H' p a b, H p = none → H a = none → H b = none → Same H H' → H' a = some (.lst (rows.map fun r => .str (S r))) → H' b = some (.tup (enV en)) → H' p = some (.tup [.ref a, .ref b, .non]) → Q (.ref p) H') : sp_rec Z [.ref d] H Q E := by subst e; exact c_rec hD hl hn ha hb hr k
/-- lists of texts compared -/
theorem dp_strs {H : Hp} : ∀ (l : List (List Nat)), DpAll K H (l.map fun r => V.str (S r)) (l.map fun r => PyData.str (S r))
  | [] => .nil
  | a :: l => .cons (.str _) (dp_strs l)
theorem can_strs : ∀ (l : List (List Nat)), (∀ r ∈ l, ∀ c ∈ r, c ≤ 1114111) → PyData.canLayAll0 (l.map fun r => PyData.str (S r)) = true
  | [], _ => rfl
  | a :: l, h => by
    show (PyData.canLay0 (.str (S a)) && PyData.canLayAll0 (l.map fun r => PyData.str (S r))) = true
    rw [can_strs l fun r hr => h r (List.mem_cons_of_mem _ hr), Bool.and_true]
    show (Array.all _ _) = true
    rw [← Array.all_toList, List.all_eq_true]
    intro c hc
    have := h a List.mem_cons_self c hc
    exact decide_eq_true (by omega)
theorem dep_strs : ∀ (l : List (List Nat)), PyData.depthAll (l.map fun r => PyData.str (S r)) = 0
  | [] => rfl
  | a :: l => by
    show max (PyData.depth (.str (S a))) (PyData.depthAll (l.map fun r => PyData.str (S r))) = 0
    rw [dep_strs l]
    rfl
theorem sh_strs {l : List (List Nat)} (h : ∀ r ∈ l, ∀ c ∈ r, c ≤ 1114111) : SeqAt.shaped (.list (l.map fun r => PyData.str (S r))) = true := by
  show (PyData.canLayAll0 _ && decide (PyData.depthAll _ + 1 ≤ 64)) = true
  rw [can_strs l h, dep_strs]
  rfl
theorem g_eqLS {a b : Addr} {l : List (List Nat)} {H : Hp} {Q : VK} (ha : H a = some (.lst (l.map fun r => V.str (S r)))) (hb : H b = some (.lst (l.map fun r => V.str (S r)))) (h : ∀ r ∈ l, ∀ c ∈ r, c ≤ 1114111) (k : Q (.bl true) H) : uEq K (.ref a) (.ref b) H Q := by
  refine .inr ⟨.list (l.map fun r => .str (S r)), .list (l.map fun r => .str (S r)), .lst (.of ha) (dp_strs l), .lst (.of hb) (dp_strs l), sh_strs h, sh_strs h, ?_⟩
  rw [SeqAt.eqv_refl (.list _) (can_strs l h)]
  exact k
def ahead : List Nat := [97, 104, 101, 97, 100]
theorem ahead_S : (Str.ofString "ahead") = S ahead := by decide +kernel
theorem ahead_ok : okW ahead = true := by decide
theorem rep_sign {a : List Nat} (h : ∀ c ∈ a, 32 ≤ c ∧ c ≤ 126) (n m : Nat) : ∀ c ∈ ((List.replicate n a).flatten).take m, 32 ≤ c ∧ c ≤ 126 := fun c hc => by
  obtain ⟨l, hl, hcl⟩ := List.mem_flatten.mp (List.mem_of_mem_take hc)
  rw [(List.mem_replicate.mp hl).2] at hcl
  exact h c hcl
theorem rep_len (a : List Nat) (n : Nat) : ((List.replicate n a).flatten).length = n * a.length := by simp
def sp_ksigns : Sp := fun vs H Q _ => ∃ (st : Addr) (v : Nat), vs = [.ref st, .int (v : Int)] ∧ v ≤ 1 ∧ Stk H st ∧ ∀ H', Stk H' st → Off st H H' → Q (.bl true) H'
theorem d_law_k04_signs (T : Txt K w mg Z) : Dfn P w K mg base 12 "_law_k04_signs" ["stock", "over"] (sp_ksigns) := by
  obtain ⟨f, fd, F, hm, hb⟩ := T.f_law_k04_signs
  refine ⟨f, fd, F.ok sc_law_k04_signs (fun vs H Q E h => by first | (obtain ⟨rfl, _⟩ := h; rfl) | (obtain ⟨_, rfl, _⟩ := h; rfl) | (obtain ⟨_, _, rfl, _⟩ := h; rfl) | (obtain ⟨_, _, _, rfl, _⟩ := h; rfl) | (obtain ⟨_, _, _, _, rfl, _⟩ := h; rfl) | (obtain ⟨_, _, _, _, _, rfl, _⟩ := h; rfl) | (obtain ⟨_, _, _, _, _, _, rfl, _⟩ := h; rfl) | (obtain ⟨_, _, _, _, _, _, _, rfl, _⟩ := h; rfl) | (obtain ⟨_, _, _, _, _, _, _, _, rfl, _⟩ := h; rfl) | (obtain ⟨_, _, _, _, _, _, _, _, _, rfl, _⟩ := h; rfl) | (obtain ⟨_, _, _, _, _, _, _, _, _, _, rfl, _⟩ := h; rfl) | (obtain ⟨_, _, _, _, _, _, _, _, _, _, _, rfl, _⟩ := h; rfl) | (obtain ⟨_, _, _, _, _, _, _, _, _, _, _, _, rfl, _⟩ := h; rfl) | (obtain ⟨_, _, _, _, _, _, _, _, _, _, _, _, _, rfl, _⟩ := h; rfl) | (obtain ⟨_, _, _, _, _, _, _, _, _, _, _, _, _, _, rfl, _⟩ := h; rfl) | (obtain ⟨_, _, _, _, _, _, _, _, _, _, _, _, _, _, _, rfl, _⟩ := h; rfl) | (obtain ⟨_, _, _, _, _, _, _, _, _, _, _, _, _, _, _, _, rfl, _⟩ := h; rfl)) (fun cdv A outer s H vs Q E hr h => ?_), hm, F.kp, hb⟩
  obtain ⟨st, v, rfl, hv, hs, k⟩ := h
  have D_Disk_init := d_Disk_init (P := P) (base := base) T
  have D_Store_init := d_Store_init (P := P) (base := base) T
  have D_Store_append := d_Store_append (P := P) (base := base) T
  have D_Disk_read := d_Disk_read (P := P) (base := base) T
  have D_log_line := d_log_line (P := P) (base := base) T
  have D_law_words := d_law_words (P := P) (base := base) T
  have D_law_log_line := d_law_log_line (P := P) (base := base) T
  have D_Store_rows := d_Store_rows (P := P) (base := base) T
  have D_recover := d_recover (P := P) (base := base) T
  refine ⟨_, (pss_cons (ps_set (i := 2) sc_law_k04_signs.nd rfl (.inl rfl) (pe_op op_mulS (pe_op op_uAdd (pe_dfn D_law_words (hr.mono (by decide)) (by rfl) (pa_cons (pv 0) (pa_cons pe_int pa_nil))) (pe_s [120, 121, 32, 122] (by decide +kernel))) pe_int))
      (pss_cons (ps_set (i := 2) sc_law_k04_signs.nd rfl (.inl rfl) (pe_slice sl_u (pv 2) po_none (po_some (pe_op op_uAdd pe_int (pv 1)))))
      (pss_cons (ps_set (i := 3) sc_law_k04_signs.nd rfl (.inl rfl) (pe_ini D_Disk_init (hr.mono (by decide)) (by rfl) (pa_cons pe_non pa_nil)))
      (pss_cons (ps_set (i := 4) sc_law_k04_signs.nd rfl (.inl rfl) (pe_iniS D_Store_init (hr.mono (by decide)) (by rfl) takes0 (pa_cons (pv 3) pa_nil)))
      (pss_cons (ps_expr (pe_mthS D_Store_append (hr.mono (by decide)) takes0 (pv 4) (pa_cons pe_str pa_nil)))
      (pss_cons (ps_set (i := 5) sc_law_k04_signs.nd rfl (.inl rfl) (pe_mth D_Disk_read (hr.mono (by decide)) (pv 3) (pa_cons pe_str pa_nil)))
      (pss_cons (ps_set (i := 6) sc_law_k04_signs.nd rfl (.inl rfl) pe_int)
      (pss_cons (ps_set (i := 7) sc_law_k04_signs.nd rfl (.inl rfl) (pe_s [] (by decide +kernel)))
      (pss_cons (ps_set (i := 8) sc_law_k04_signs.nd rfl (.inl rfl) pe_int)
      (pss_cons (ps_try_as (i := 9) (Wout := fun _ _ _ _ => False) rfl rfl sc_law_k04_signs.nd rfl rfl ⟨rfl, by decide, Or.inl T.g_TooMany⟩ takes0 (fun W pn xe tk _ => (pss_one (ps_set (i := 7) sc_law_k04_signs.nd rfl (.inl rfl) (pe_dfnS D_log_line (hr.mono (by decide)) (by rfl) tk (pa_cons pe_int (pa_cons (pv 2) pa_nil)))))) (fun a oe cls d pn hz hf => (pss_one (ps_aug (i := 6) sc_law_k04_signs.nd rfl (.inl rfl) (pe_ifExp (pt_cmpR (op_uEqK (K := K) rfl hr.units) (pe_xf T.x_TooMany T.n_TooMany_what hz hf (pv 9)) pe_str (nomark _)) pe_int pe_int) ip_add))))
      (pss_cons (ps_try_as (i := 9) (Wout := fun _ _ _ _ => False) rfl rfl sc_law_k04_signs.nd rfl rfl ⟨rfl, by decide, Or.inl T.g_TooMany⟩ takes0 (fun W pn xe tk _ => (pss_one (ps_set (i := 8) sc_law_k04_signs.nd rfl (.inl rfl) (pe_mthS D_Store_append (hr.mono (by decide)) tk (pv 4) (pa_cons (pv 2) pa_nil))))) (fun a oe cls d pn hz hf => (pss_one (ps_aug (i := 6) sc_law_k04_signs.nd rfl (.inl rfl) (pe_ifExp (pt_cmpR (op_uEqK (K := K) rfl hr.units) (pe_xf T.x_TooMany T.n_TooMany_what hz hf (pv 9)) pe_str (nomark _)) pe_int pe_int) ip_add))))
      (pss_cons (ps_if (pt_cmpR op_gt (pv 1) pe_int (nomark _)) (pss_one (ps_ret (pe_and (pe_cmpR (op_uEq hr.units) (pv 6) pe_int (nomark _)) (pe_and (pe_cmpR (op_uEq hr.units) (pe_mth D_Disk_read (hr.mono (by decide)) (pv 3) (pa_cons pe_str pa_nil)) (pv 5) (nomark _)) (pe_one (pe_cmpR (op_uEq hr.units) (pe_mth0 D_Store_rows (hr.mono (by decide)) (pv 4)) (pe_lst (pa_cons pe_str pa_nil)) (nomark _))))))) pss_nil)
      (pss_one (ps_ret (pe_and (pe_cmpR (op_uEq hr.units) (pv 6) pe_int (nomark _)) (pe_and (pe_cmpR (op_uEq hr.units) (pv 7) (pe_dfn D_law_log_line (hr.mono (by decide)) (by rfl) (pa_cons pe_int (pa_cons (pv 2) pa_nil))) (nomark _)) (pe_and (pe_cmpR (op_uEq hr.units) (pv 8) pe_int (nomark _)) (pe_one (pe_cmpR (op_uEq hr.units) (pe_ix ix_seq (pe_dfnS D_recover (hr.mono (by decide)) (by rfl) takes0 (pa_cons (pv 3) pa_nil)) pe_int (fun _ _ => rfl)) (pe_lst (pa_cons pe_str (pa_cons (pv 2) pa_nil))) (nomark _)))))))))))))))))))), ?_⟩
  try dsimp only [cxOf, Cx.nox, Cx.wish]
  show (_ : TS) _ [some _, some _, none, none, none, none, none, none, none, none] _
  o_readsAll
  refine c_words (by decide) (by decide) hs fun cs H1 hcl hok s1 o1 => ?_
  o_readsAll
  rw [S_cat]
  have hl0 : (cs ++ [120, 121, 32, 122]).length = cs.length + 4 := by rw [List.length_append]; rfl
  have hsg : ∀ c ∈ cs ++ [120, 121, 32, 122], 32 ≤ c ∧ c ≤ 126 := fun c hc => by
    rcases List.mem_append.mp hc with h | h
    · exact okW_sign hok c h
    · simp only [List.mem_cons, List.not_mem_nil, or_false] at h
      rcases h with rfl | rfl | rfl | rfl <;> decide
  generalize cs ++ [120, 121, 32, 122] = wa at hl0 hsg
  refine g_mulS (n := 501) (by decide) (by decide) (by intro z; rw [z] at hl0; simp at hl0) (by omega) ?_
  have hl1 := rep_len wa 501
  have hsg2 := rep_sign hsg 501 (2000 + v)
  generalize (List.replicate 501 wa).flatten = wb at hl1 hsg2
  o_readsAll
  rw [show (2000 + (v : Int)) = ((2000 + v : Nat) : Int) by omega, cut_to]
  have hwl : (wb.take (2000 + v)).length = 2000 + v := by rw [List.length_take]; omega
  generalize wb.take (2000 + v) = wc at hwl hsg2
  refine c_dmake fun D1 H2 fr1 e2 n1 k1 w1 hD1 => ?_
  have s2 := s1.same e2
  have o2 := o1.same e2
  have ok0 : OkF (doIt D1.now (.t "log" 0)) := by rw [n1]; exact (Sm.doIt (sm_fl []) (.t "log" 0)).ok (by decide) (by decide)
  o_readsAll
  refine c_smake (rows := []) (en := .whole) hD1 (by rw [n1]; exact Nat.zero_le _) (by rw [n1]; decide) (by rw [n1]; rfl) (by rw [n1]; rfl) (by rw [n1]; rfl) (fun _ h => nomatch h) ok0 (by rw [w1]; decide) fun H3 D2 s sx srl fs fsl o3 hD3 h31 h32 h33 nw3 hS3 => ?_
  obtain rfl := h32 rfl
  clear h33
  have e13 : Same H1 H3 := Offs.allN e2 o3 (mf_cons fr1.1 (mf_cons fr1.2.1 (mf_cons fr1.2.2.1 (mf_cons fr1.2.2.2 mf_nil))))
  have fs1 : H1 s = none := e2.free fs
  have fsl1 : H1 srl = none := e2.free fsl
  have nsd : s ≠ D2.d := (ne_of_none hD1.hd fs).symm
  have hst3 := hS3.1
  have hnow : doIt D2.now (.w "log" (lnT ([] : List (List Nat)).length ahead)) = fl (lnT 0 ahead) := by rw [n1]; exact do_fl [] _ (lnT_ne _ _)
  o_readsAll
  rw [ahead_S]
  refine c_sapp (ws := ahead) hD3 rfl hS3 (by decide) ahead_ok (by rw [hnow]; exact ok_fl (by decide)) (by rw [w1]; decide) nw3 fun H4 p4 fp4 o4 hD4 hS4 => ?_
  rw [hnow] at hD4
  have e14 : Same H1 H4 := Offs.allN e13 o4 (mf_cons fr1.2.1 (mf_cons fr1.2.2.2 (mf_cons fsl1 mf_nil)))
  have hst4 := hS4.1
  have hd4 : H4 D2.d = some (.ins Z.a_Disk D2.dx [("power_now", .non), ("files_now", .ref D2.d1), ("files_kept", .ref D2.d2), ("waiting_list", .ref D2.wl)]) := hD4.hd
  o_readsAll
  refine c_readE hD4 rfl ?_
  rw [show gt ({ D2 with now := fl (lnT 0 ahead), wt := D2.wt ++ [(p4, .w "log" (lnT ([] : List (List Nat)).length ahead))] } : Dk).now "log" = lnT 0 ahead from gt_fl (lnT 0 ahead)]
  have hsg3 : ∀ c ∈ wc, c ≤ 1114111 := fun c hc => by have := (hsg2 c hc).2; omega
  rcases (show v = 0 ∨ v = 1 by omega) with rfl | rfl
  · have hwok : okW wc = true := okW_of (by omega) hsg2
    o_readsAll
    refine c_lineZ (n := 7) (by decide) (by omega) hsg3 fun H5 e5 => ?_
    have hst5 := e5 _ _ hst4
    o_readsAll
    have hnow2 : doIt (fl (lnT 0 ahead)) (.w "log" (lnT ([ahead] : List (List Nat)).length wc)) = fl (logT 0 [ahead, wc]) := by
      rw [do_fl _ _ (lnT_ne _ _), logT_cons, logT_cons]
      simp [logT]
    have hbl : (logT 0 [ahead, wc]).length ≤ 2 * 2022 := logT_small (by decide) (by show 2 ≤ 2001; decide) (fun r hr => by
      simp only [List.mem_cons, List.not_mem_nil, or_false] at hr
      rcases hr with rfl | rfl
      · exact ahead_ok
      · exact hwok)
    have hrok : ∀ r ∈ [ahead, wc], okW r = true := fun r hr => by
      simp only [List.mem_cons, List.not_mem_nil, or_false] at hr
      rcases hr with rfl | rfl
      · exact ahead_ok
      · exact hwok
    refine c_sapp (D := { D2 with now := fl (lnT 0 ahead), wt := D2.wt ++ [(p4, .w "log" (lnT ([] : List (List Nat)).length ahead))] }) (rows := [ahead]) (ws := wc) (hD4.same e5) rfl ⟨e5 _ _ hS4.1, e5 _ _ hS4.2⟩ (by decide) hwok (by rw [hnow2]; exact ok_fl (by omega)) (by show (D2.wt ++ _).length < _; rw [List.length_append, w1]; show 0 + 1 < _; decide) nw3 fun H6 p6 fp6 o6 hD6 hS6 => ?_
    rw [hnow2] at hD6
    have e15 := e14.trans e5
    have e16 : Same H1 H6 := Offs.allN e15 o6 (mf_cons fr1.2.1 (mf_cons fr1.2.2.2 (mf_cons fsl1 mf_nil)))
    o_readsAll
    refine brF (by decide) ?_
    o_readsAll
    refine brT (by decide) ?_
    o_readsAll
    refine c_ll (n := 7) (by decide) (by omega) hsg3 fun H7 e7 => ?_
    o_readsAll
    refine brT (decide_eq_true rfl) ?_
    o_readsAll
    refine brT (by decide) ?_
    o_readsAll
    have hpl := pcs_len 0 [ahead, wc] [] hrok (by simp)
    have hrec := recP_logT 0 [ahead, wc] [] hrok (by simp)
    rw [List.append_nil] at hpl hrec
    rw [if_pos rfl] at hrec
    refine c_recE (D := { D2 with now := fl (logT 0 [ahead, wc]), wt := D2.wt ++ [(p4, .w "log" (lnT ([] : List (List Nat)).length ahead))] ++ [(p6, .w "log" (lnT ([ahead] : List (List Nat)).length wc))] }) (rows := [ahead, wc]) (en := .whole) (hD6.same e7) rfl (by show (gt (fl (logT 0 [ahead, wc])) "log").length ≤ _; rw [gt_fl]; omega) (by show (pcs (gt (fl (logT 0 [ahead, wc])) "log")).length ≤ _; rw [gt_fl, hpl]; show 2 + 1 ≤ 2001; decide) (gt_flN (logT 0 [ahead, wc]) sa) (gt_flN (logT 0 [ahead, wc]) sb) (by show recP 0 (pcs (gt (fl (logT 0 [ahead, wc])) "log")) = _; rw [gt_fl]; exact hrec) fun H8 p8 a8 b8 fp8 fa8 fb8 e8 ha8 hb8 hp8 => ?_
    o_readsAll
    rename_i q9 H9 fq9 e9 h9
    refine g_eqLS (l := [ahead, wc]) (e9 _ _ ha8) (by rw [h9, ahead_S]; rfl) (fun r hr c hc => by have := (okW_sign (hrok r hr) c hc).2; omega) ?_
    have e19 := ((e16.trans e7).trans e8).trans e9
    exact k _ (s1.same e19) (o1.same e19)
  · o_readsAll
    refine c_lineX (n := 7) (by decide) (by omega) (by omega) hsg3 fun d5 H5 fd5 e5 h5 => ?_
    have hst5 := e5 _ _ hst4
    refine g_wAs T.m_TooMany fun a5 fa5 => ?_
    o_readsAll
    refine g_xf h5 fld_hd ?_
    o_readsAll
    refine brT (by decide +kernel) ?_
    o_readsAll
    refine c_sappX (D := { D2 with now := fl (lnT 0 ahead), wt := D2.wt ++ [(p4, .w "log" (lnT ([] : List (List Nat)).length ahead))] }) (rows := [ahead]) (ws := wc) (hD4.same e5) rfl ⟨e5 _ _ hS4.1, e5 _ _ hS4.2⟩ (by decide) (by omega) (by omega) hsg3 fun d6 H6 fd6 e6 h6 => ?_
    have e46 := e5.trans e6
    have hst6 := e46 _ _ hst4
    have hd6 := e46 _ _ hd4
    refine g_wAs T.m_TooMany fun a6 fa6 => ?_
    o_readsAll
    refine g_xf h6 fld_hd ?_
    o_readsAll
    refine brT (by decide +kernel) ?_
    o_readsAll
    refine brT (by decide) ?_
    o_readsAll
    refine brT (by decide) ?_
    o_readsAll
    refine c_readE (hD4.same e46) rfl ?_
    rw [show gt ({ D2 with now := fl (lnT 0 ahead), wt := D2.wt ++ [(p4, .w "log" (lnT ([] : List (List Nat)).length ahead))] } : Dk).now "log" = lnT 0 ahead from gt_fl (lnT 0 ahead)]
    o_readsAll
    refine brT (decide_eq_true rfl) ?_
    o_readsAll
    refine c_srows (rows := [ahead]) ⟨hst6, e46 _ _ hS4.2⟩ fun H7 p7 fp7 e7 h7 => ?_
    o_readsAll
    rename_i q8 H8 fq8 e8 h8
    refine g_eqLS (l := [ahead]) (e8 _ _ h7) (by rw [h8, ahead_S]; rfl) (fun r hr c hc => by
      rw [List.mem_singleton.mp hr] at hc
      have := (okW_sign ahead_ok c hc).2
      omega) ?_
    have e18 := ((e14.trans e46).trans e7).trans e8
    exact k _ (s1.same e18) (o1.same e18)
end
end L04

namespace L04
open SX Sp Lg TL
section
variable {P : Program} {w : World} {K : PySem.W.Frag} {mg : Str → Option Value} {base : Heap} {Z : Ad}
theorem a_S : (Str.ofString "a") = S [97] := by decide +kernel
theorem b_S : (Str.ofString "b") = S [98] := by decide +kernel
def sp_klong : Sp := fun vs H Q _ => ∃ (m : Nat), vs = [.int (m : Int)] ∧ 1999 ≤ m ∧ m ≤ 2001 ∧ ∀ H', Same H H' → Q (.bl true) H'
theorem q_Store_rows (T : Txt K w mg Z) : MthQ P w K mg base 1 Z.a_Store "rows" ["self"] (sp_srows Z.a_Store) := by
  obtain ⟨f, fd, F, hm, hb⟩ := T.f_Store_rows
  refine ⟨⟨f, fd, okQ F sc_Store_rows (fun vs H Q E h => by first | (obtain ⟨rfl, _⟩ := h; rfl) | (obtain ⟨_, rfl, _⟩ := h; rfl) | (obtain ⟨_, _, rfl, _⟩ := h; rfl) | (obtain ⟨_, _, _, rfl, _⟩ := h; rfl) | (obtain ⟨_, _, _, _, rfl, _⟩ := h; rfl) | (obtain ⟨_, _, _, _, _, rfl, _⟩ := h; rfl) | (obtain ⟨_, _, _, _, _, _, rfl, _⟩ := h; rfl) | (obtain ⟨_, _, _, _, _, _, _, rfl, _⟩ := h; rfl) | (obtain ⟨_, _, _, _, _, _, _, _, rfl, _⟩ := h; rfl) | (obtain ⟨_, _, _, _, _, _, _, _, _, rfl, _⟩ := h; rfl) | (obtain ⟨_, _, _, _, _, _, _, _, _, _, rfl, _⟩ := h; rfl) | (obtain ⟨_, _, _, _, _, _, _, _, _, _, _, rfl, _⟩ := h; rfl) | (obtain ⟨_, _, _, _, _, _, _, _, _, _, _, _, rfl, _⟩ := h; rfl) | (obtain ⟨_, _, _, _, _, _, _, _, _, _, _, _, _, rfl, _⟩ := h; rfl) | (obtain ⟨_, _, _, _, _, _, _, _, _, _, _, _, _, _, rfl, _⟩ := h; rfl) | (obtain ⟨_, _, _, _, _, _, _, _, _, _, _, _, _, _, _, rfl, _⟩ := h; rfl) | (obtain ⟨_, _, _, _, _, _, _, _, _, _, _, _, _, _, _, _, rfl, _⟩ := h; rfl)) (fun cdv A outer s H vs Q E hr h => ?_), hm, hb⟩, T.l_Store⟩
  obtain ⟨s, dx, d, rl, rows, rfl, ⟨hs, hr'⟩, k⟩ := h
  have l_Store := T.l_Store
  have n_Store_rows_list := T.n_Store_rows_list
  refine ⟨_, (pss_one (ps_ret (pe_callTy call_uList (by rfl) T.b_list bt_list (pa_cons (pe_fld (pv 0) rfl) pa_nil)))), ?_⟩
  try dsimp only [cxOf, Cx.nox, Cx.wish]
  show (_ : TS) _ [some _] _
  o_readsAll
  rename_i p H1 hp e1 h1
  exact k _ p hp e1 h1
theorem d_law_k04_long (T : Txt K w mg Z) : Dfn P w K mg base 12 "_law_k04_long" ["many"] (sp_klong) := by
  obtain ⟨f, fd, F, hm, hb⟩ := T.f_law_k04_long
  refine ⟨f, fd, F.ok sc_law_k04_long (fun vs H Q E h => by first | (obtain ⟨rfl, _⟩ := h; rfl) | (obtain ⟨_, rfl, _⟩ := h; rfl) | (obtain ⟨_, _, rfl, _⟩ := h; rfl) | (obtain ⟨_, _, _, rfl, _⟩ := h; rfl) | (obtain ⟨_, _, _, _, rfl, _⟩ := h; rfl) | (obtain ⟨_, _, _, _, _, rfl, _⟩ := h; rfl) | (obtain ⟨_, _, _, _, _, _, rfl, _⟩ := h; rfl) | (obtain ⟨_, _, _, _, _, _, _, rfl, _⟩ := h; rfl) | (obtain ⟨_, _, _, _, _, _, _, _, rfl, _⟩ := h; rfl) | (obtain ⟨_, _, _, _, _, _, _, _, _, rfl, _⟩ := h; rfl) | (obtain ⟨_, _, _, _, _, _, _, _, _, _, rfl, _⟩ := h; rfl) | (obtain ⟨_, _, _, _, _, _, _, _, _, _, _, rfl, _⟩ := h; rfl) | (obtain ⟨_, _, _, _, _, _, _, _, _, _, _, _, rfl, _⟩ := h; rfl) | (obtain ⟨_, _, _, _, _, _, _, _, _, _, _, _, _, rfl, _⟩ := h; rfl) | (obtain ⟨_, _, _, _, _, _, _, _, _, _, _, _, _, _, rfl, _⟩ := h; rfl) | (obtain ⟨_, _, _, _, _, _, _, _, _, _, _, _, _, _, _, rfl, _⟩ := h; rfl) | (obtain ⟨_, _, _, _, _, _, _, _, _, _, _, _, _, _, _, _, rfl, _⟩ := h; rfl)) (fun cdv A outer s H vs Q E hr h => ?_), hm, F.kp, hb⟩
  obtain ⟨m, rfl, hm1, hm2, k⟩ := h
  have hok : ∀ r ∈ List.replicate m [97], okW r = true := fun r hr => by rw [(List.mem_replicate.mp hr).2]; decide
  have hlen : (List.replicate m [97]).length = m := List.length_replicate
  have hsm := logT_small (rows := List.replicate m [97]) (k := 0) (by decide) (by omega) hok
  have hpl := pcs_len 0 (List.replicate m [97]) [] hok (by simp)
  have hrec := recP_logT 0 (List.replicate m [97]) [] hok (by simp)
  rw [List.append_nil] at hpl hrec
  rw [if_pos rfl] at hrec
  have hne : logT 0 (List.replicate m [97]) ≠ [] := by
    obtain ⟨j, rfl⟩ : ∃ j, m = j + 1 := ⟨m - 1, by omega⟩
    rw [List.replicate_succ, logT_cons]
    simp [lnT]
  have hrows : ((List.range m).map fun _ => V.str (Str.ofString "a")) = (List.replicate m [97]).map fun r => V.str (S r) := by
    rw [a_S, List.map_replicate]
    rw [List.map_const', List.length_range]
  generalize List.replicate m [97] = rows at *
  generalize eT : logT 0 rows = tx at *
  have D_Disk_init := d_Disk_init (P := P) (base := base) T
  have D_Disk_write := d_Disk_write (P := P) (base := base) T
  have D_law_log_text := d_law_log_text (P := P) (base := base) T
  have D_Store_init := d_Store_init (P := P) (base := base) T
  have D_Store_append := d_Store_append (P := P) (base := base) T
  have D_Store_rows := d_Store_rows (P := P) (base := base) T
  have Q_Store_rows := q_Store_rows (P := P) (base := base) T
  refine ⟨_, (pss_cons (ps_set (i := 1) sc_law_k04_long.nd rfl (.inl rfl) (pe_ini D_Disk_init (hr.mono (by decide)) (by rfl) (pa_cons pe_non pa_nil)))
      (pss_cons (ps_expr (pe_mth D_Disk_write (hr.mono (by decide)) (pv 1) (pa_cons pe_str (pa_cons (pe_dfn D_law_log_text (hr.mono (by decide)) (by rfl) (pa_cons (pe_lc (own := [("turn", 5)]) (by rfl) sc_law_k04_long.nd (pi_range1 (by rfl) T.b_range (pa_cons (pv 0) pa_nil)) (blkOk_by (N := n_law_k04_long) (sc := defScope st_law_k04_long) (by decide +kernel)) (fun _ _ _ _ _ => (pg_name (i := 5) sc_law_k04_long.nd rfl (.inl rfl))) (fun _ _ _ _ _ => pts_nil) (fun _ _ _ _ _ => pe_str)) pa_nil)) pa_nil))))
      (pss_cons (ps_try_as (i := 3) (Wout := fun _ _ _ _ => False) rfl rfl sc_law_k04_long.nd rfl rfl ⟨rfl, by decide, Or.inl T.g_TooMany⟩ takes0 (fun W pn xe tk _ => (pss_one (ps_set (i := 2) sc_law_k04_long.nd rfl (.inl rfl) (pe_iniS D_Store_init (hr.mono (by decide)) (by rfl) tk (pa_cons (pv 1) pa_nil))))) (fun a oe cls d pn hz hf => (pss_one (ps_ret (pe_and (pe_cmpR op_gt (pv 0) pe_int (nomark _)) (pe_one (pe_cmpR (op_uEqK (K := K) rfl hr.units) (pe_xf T.x_TooMany T.n_TooMany_what hz hf (pv 3)) pe_str (nomark _))))))))
      (pss_cons (ps_if (PW.pt (pw_or (pt_cmpR op_gt (pv 0) pe_int (nomark _)) (pw_or1 (pt_cmpR (op_uNe hr.units) (pe_callB call_uLen (by rfl) T.b_len bt_len (pa_cons (pe_mth0 D_Store_rows (hr.mono (by decide)) (pv 2)) pa_nil)) (pv 0) (nomark _))))) (pss_one (ps_ret pe_bl)) pss_nil)
      (pss_cons (ps_try_as (i := 3) (Wout := fun _ _ _ _ => False) rfl rfl sc_law_k04_long.nd rfl rfl ⟨rfl, by decide, Or.inl T.g_TooMany⟩ takes0 (fun W pn xe tk _ => (pss_one (ps_set (i := 4) sc_law_k04_long.nd rfl (.inl rfl) (pe_mthS D_Store_append (hr.mono (by decide)) tk (pv 2) (pa_cons pe_str pa_nil))))) (fun a oe cls d pn hz hf => (pss_one (ps_ret (pe_and (pe_cmpR (op_uEqK (K := K) rfl hr.units) (pv 0) pe_int (nomark _)) (pe_and (pe_cmpR (op_uEqK (K := K) rfl hr.units) (pe_xf T.x_TooMany T.n_TooMany_what hz hf (pv 3)) pe_str (nomark _)) (pe_one (pe_cmpR (op_uEqK (K := K) rfl hr.units) (pe_callB (call_uLenK (K := K) rfl) (by rfl) T.b_len bt_len (pa_cons (pe_mthQ0 (k := 1) Q_Store_rows (L2H.roomH_mark (hr.mono (by decide)) _) (pv 2)) pa_nil)) pe_int (nomark _)))))))))
      (pss_one (ps_ret (pe_and (pe_cmpR op_lt (pv 0) pe_int (nomark _)) (pe_and (pe_cmpR (op_uEq hr.units) (pv 4) (pe_op op_uAdd (pv 0) pe_int) (nomark _)) (pe_one (pe_cmpR (op_uEq hr.units) (pe_ix ix_seq (pe_mth0 D_Store_rows (hr.mono (by decide)) (pv 2)) (pv 0) (fun _ _ => rfl)) pe_str (nomark _)))))))))))), ?_⟩
  try dsimp only [cxOf, Cx.nox, Cx.wish]
  show (_ : TS) _ [some _, none, none, none, none, none] _
  o_readsAll
  refine c_dmake fun D H1 fr1 e1 n1 k1 w1 hD1 => ?_
  have hd1 := hD1.hd
  o_readsAll
  rw [Int.toNat_natCast]
  refine l_rngP (fun i => .str (Str.ofString "a")) (fun x => rfl) (fun D' i H' hi hD e hl' => ?_) fun q H2 hq e2 h2 => ?_
  · o_readsAll
    exact g_itemP e hl' hD (by rw [sizeLine_eq]; omega) rfl
  · rw [hrows] at h2
    have hd2 := e2 _ _ hd1
    o_readsAll
    refine c_text (.of h2) (by omega) hok fun H3 e3 => ?_
    rw [eT]
    have hdo : doIt D.now (.w "log" tx) = fl tx := by rw [n1]; exact do_fl [] tx hne
    have hD3 := (hD1.same e2).same e3
    o_readsAll
    refine c_write hD3 hne (by omega) (by rw [hdo]; exact ok_fl (by omega)) (by rw [w1]; decide) fun H4 p4 fp4 o4 hD4 => ?_
    rw [hdo] at hD4
    have e03 := (e1.trans e2).trans e3
    have e04 : Same H H4 := Offs.allN e03 o4 (mf_cons fr1.2.1 (mf_cons fr1.2.2.2 mf_nil))
    have hd4 : H4 D.d = some (.ins Z.a_Disk D.dx [("power_now", .non), ("files_now", .ref D.d1), ("files_kept", .ref D.d2), ("waiting_list", .ref D.wl)]) := hD4.hd
    have okT : OkF (doIt (fl tx) (.t "log" (logT 0 rows).length)) := ((sm_fl tx).doIt _).ok (by decide) (by show tx.length + 0 ≤ _; omega)
    have hw4 : (D.wt ++ [(p4, Itm.w "log" tx)]).length < 100000 := by rw [List.length_append, w1]; show 0 + 1 < _; decide
    o_readsAll
    by_cases hm3 : m = 2001
    · refine c_smakeX (D := { D with now := fl tx, wt := D.wt ++ [(p4, .w "log" tx)] }) (rows := rows) (en := .whole) hD4 (by show (gt (fl tx) "log").length ≤ _; rw [gt_fl]; omega) (by show _ < (pcs (gt (fl tx) "log")).length; rw [gt_fl, hpl]; omega) (gt_flN tx sa) (gt_flN tx sb) (by show recP 0 (pcs (gt (fl tx) "log")) = _; rw [gt_fl]; exact hrec) (fun _ h => nomatch h) okT hw4 fun d5 H5 fd5 e5 h5 => ?_
      refine g_wAs T.m_TooMany fun a5 fa5 => ?_
      o_readsAll
      refine brT (decide_eq_true (by omega)) ?_
      o_readsAll
      refine g_xf h5 fld_hd ?_
      o_readsAll
      rw [decide_eq_true rfl]
      exact k _ (e04.trans e5)
    · refine c_smake (D := { D with now := fl tx, wt := D.wt ++ [(p4, .w "log" tx)] }) (rows := rows) (en := .whole) hD4 (by show (gt (fl tx) "log").length ≤ _; rw [gt_fl]; omega) (by show (pcs (gt (fl tx) "log")).length ≤ _; rw [gt_fl, hpl]; omega) (gt_flN tx sa) (gt_flN tx sb) (by show recP 0 (pcs (gt (fl tx) "log")) = _; rw [gt_fl]; exact hrec) (fun _ h => nomatch h) okT hw4 fun H5 D5 s sx srl fs fsl o5 hD5 h51 h52 h53 nw5 hS5 => ?_
      have hDD := h52 rfl
      subst hDD
      clear h53
      have e05 : Same H H5 := Offs.allN e04 o5 (mf_cons fr1.1 (mf_cons fr1.2.1 (mf_cons fr1.2.2.1 (mf_cons fr1.2.2.2 mf_nil))))
      have hst5 := hS5.1
      o_readsAll
      refine brF (decide_eq_false (by omega)) ?_
      o_readsAll
      refine c_srows hS5 fun H6 p6 fp6 e6 h6 => ?_
      have hst6 := e6 _ _ hst5
      have hS6 : StoreAt Z.a_Store H6 s sx D.d srl rows := ⟨hst6, e6 _ _ hS5.2⟩
      o_readsAll
      have hlr : (rows.map fun r => V.str (S r)).length = m := by rw [List.length_map, hlen]
      rw [hlr]
      refine brF (by simp) ?_
      have fs0 : H s = none := e04.free fs
      have hst6' := hst6
      o_readsAll
      rw [b_S]
      by_cases hm2 : m = 2000
      · refine c_sappL (ws := [98]) (D := { D with now := fl tx, wt := D.wt ++ [(p4, .w "log" tx)] }) (rows := rows) (hD5.same e6) rfl hS6 (by omega) (by omega) (by decide) (by decide) fun d7 H7 fd7 e7 h7 => ?_
        refine g_wAs T.m_TooMany fun a7 fa7 => ?_
        have hst7 := e7 _ _ hst6
        have hS7 : StoreAt Z.a_Store H7 s sx D.d srl rows := ⟨hst7, e7 _ _ hS6.2⟩
        o_readsAll
        refine brT (decide_eq_true (by omega)) ?_
        o_readsAll
        refine g_xf h7 fld_hd ?_
        o_readsAll
        refine brT (decide_eq_true rfl) ?_
        o_readsAll
        refine c_srows hS7 fun H8 p8 fp8 e8 h8 => ?_
        o_readsAll
        rw [hlr, decide_eq_true (show (m : Int) = 2000 by omega)]
        exact k _ (((e05.trans e6).trans e7).trans e8)
      · have hsn2 : (tx ++ lnT rows.length [98]).length ≤ 10000000 := by
          have h := logT_snoc 0 rows [98]
          rw [Nat.zero_add, eT] at h
          rw [← h]
          refine Nat.le_trans (logT_small (by decide) (by rw [List.length_append]; show rows.length + 1 ≤ _; omega) fun r hr => ?_) (by rw [List.length_append]; show (rows.length + 1) * 2022 ≤ _; omega)
          rcases List.mem_append.mp hr with h | h
          · exact hok r h
          · rw [List.mem_singleton.mp h]
            decide
        have hnow2 : doIt (fl tx) (.w "log" (lnT rows.length [98])) = fl (tx ++ lnT rows.length [98]) := do_fl _ _ (lnT_ne _ _)
        refine c_sapp (D := { D with now := fl tx, wt := D.wt ++ [(p4, .w "log" tx)] }) (rows := rows) (ws := [98]) (hD5.same e6) rfl hS6 (by omega) (by decide) (by rw [hnow2]; exact ok_fl hsn2) hw4 nw5 fun H7 p7 fp7 o7 hD7 hS7 => ?_
        have hst7 := hS7.1
        have e07 : Same H H7 := Offs.allN (e05.trans e6) o7 (mf_cons fr1.2.1 (mf_cons fr1.2.2.2 (mf_cons (e04.free fsl) mf_nil)))
        o_readsAll
        refine brT (decide_eq_true (by omega)) ?_
        o_readsAll
        refine brT (decide_eq_true (by omega)) ?_
        o_readsAll
        refine c_srows hS7 fun H8 p8 fp8 e8 h8 => ?_
        o_readsAll
        refine g_ixL (.of h8) (atI_nat (v := .str (S [98])) (by rw [List.map_append, List.getElem?_append_right (by rw [hlr]; exact Nat.le_refl _), hlr, Nat.sub_self]; rfl)) ?_
        o_readsAll
        rw [b_S]
        o_readsAll
        rw [decide_eq_true rfl]
        exact k _ (e07.trans e8)
end
end L04

namespace L04
open SX Sp Lg TL
section
variable {P : Program} {w : World} {K : PySem.W.Frag} {mg : Str → Option Value} {base : Heap} {Z : Ad}
theorem c_again {C : Addr} {D : Dk} {keep : Nat} {H : Hp} {Q : VK} {E : XK} (hD : DiskAt C H D) (ho : ∀ i, OkF (agn D.kept (D.its.take i) keep)) (k : ∀ D' H', Fresh D' H → Same H H' → DiskAt C H' D' → D'.now = agn D.kept D.its keep → D'.kept = agn D.kept D.its keep → D'.wt = [] → Q (.ref D'.d) H') : sp_again C [.ref D.d, .int (keep : Int), .non] H Q E := ⟨D, keep, rfl, hD, ho, k⟩
theorem c_wait {C : Addr} {D : Dk} {H : Hp} {Q : VK} {E : XK} (hD : DiskAt C H D) (k : ∀ H', Same H H' → Q (.int ((manys D.its : Nat) : Int)) H') : sp_wait C [.ref D.d] H Q E := ⟨D, rfl, hD, fun H' e => by rw [manys_int]; exact k H' e⟩
theorem c_waitE {C d : Addr} {D : Dk} {H : Hp} {Q : VK} {E : XK} (hD : DiskAt C H D) (e : D.d = d) (k : ∀ H', Same H H' → Q (.int ((manys D.its : Nat) : Int)) H') : sp_wait C [.ref d] H Q E := by subst e; exact c_wait hD k
theorem c_mat {n : Nat} {x y : V} {H : Hp} {Q : VK} {E : XK} (h : Alk H n x y) (k : ∀ H', Same H H' → Q (.bl true) H') : sp_mat n [x, y] H Q E := ⟨x, y, rfl, h, k⟩
theorem alk_rows {H : Hp} {n : Nat} {a b : Addr} {rows : List (List Nat)} (ha : H a = some (.lst (rows.map fun r => .str (S r)))) (hb : H b = some (.lst (rows.map fun r => .str (S r)))) (hl : rows.length ≤ 1000000) : Alk H (n + 2) (.ref a) (.ref b) := by
  refine .inr (.inr (.inr (.inr ⟨a, b, _, _, rfl, rfl, ha, hb, rfl, by rw [List.length_map]; exact hl, fun i u v hu hv => ?_⟩)))
  rw [hu] at hv
  cases hv
  rw [List.getElem?_map] at hu
  obtain ⟨r, _, rfl⟩ := Option.map_eq_some_iff.mp hu
  exact .inr (.inr (.inl ⟨_, rfl, rfl⟩))
theorem alk_en {H : Hp} {n : Nat} {a b : Addr} {e : En} (ha : H a = some (.tup (enV e))) (hb : H b = some (.tup (enV e))) : Alk H (n + 2) (.ref a) (.ref b) := by
  refine .inr (.inr (.inr (.inl ⟨a, b, _, _, rfl, rfl, ha, hb, rfl, by cases e <;> simp [enV], fun i u v hu hv => ?_⟩)))
  rw [hu] at hv
  cases hv
  have hm := List.mem_of_getElem? hu
  cases e <;> simp only [enV, List.mem_cons, List.not_mem_nil, or_false] at hm
  · subst hm; exact .inr (.inr (.inl ⟨_, rfl, rfl⟩))
  · rcases hm with rfl | rfl
    · exact .inr (.inr (.inl ⟨_, rfl, rfl⟩))
    · exact .inr (.inl ⟨_, rfl, rfl⟩)
  · rcases hm with rfl | rfl
    · exact .inr (.inr (.inl ⟨_, rfl, rfl⟩))
    · exact .inr (.inl ⟨_, rfl, rfl⟩)
theorem alk_rec {H : Hp} {p q a b a' b' : Addr} {rows : List (List Nat)} {e : En} (hp : H p = some (.tup [.ref a, .ref b, .non])) (hq : H q = some (.tup [.ref a', .ref b', .non])) (ha : H a = some (.lst (rows.map fun r => .str (S r)))) (ha' : H a' = some (.lst (rows.map fun r => .str (S r)))) (hb : H b = some (.tup (enV e))) (hb' : H b' = some (.tup (enV e))) (hl : rows.length ≤ 1000000) : Alk H 3 (.ref p) (.ref q) := by
  refine .inr (.inr (.inr (.inl ⟨p, q, _, _, rfl, rfl, hp, hq, rfl, by simp, fun i u v hu hv => ?_⟩)))
  match i with
  | 0 => cases hu; cases hv; exact alk_rows ha ha' hl
  | 1 => cases hu; cases hv; exact alk_en hb hb'
  | 2 => cases hu; cases hv; exact .inl ⟨rfl, rfl⟩
  | i + 3 => cases hu
theorem disk_offL {C a : Addr} {H H' : Hp} {D : Dk} (h : DiskAt C H D) (s : Stk H a) (n : a ≠ D.wl) (o : Off a H H') : DiskAt C H' D := by
  obtain ⟨x, y, z, q⟩ := s
  exact ⟨o _ _ (ne_of h.hd q (by intro z; cases z)) h.hd, o _ _ (ne_of h.h1 q (by intro z; cases z)) h.h1, o _ _ (ne_of h.h2 q (by intro z; cases z)) h.h2, o _ _ n.symm h.hw, fun p m => o _ _ (ne_of (h.ht p m) q (by intro z; cases z)) (h.ht p m), h.hs, h.ne, h.lw, h.iv, h.ok⟩
theorem store_offL {C a s dx d rl : Addr} {rows : List (List Nat)} {H H' : Hp} (h : StoreAt C H s dx d rl rows) (st : Stk H a) (n : a ≠ rl) (o : Off a H H') : StoreAt C H' s dx d rl rows := by
  obtain ⟨x, y, z, q⟩ := st
  exact ⟨o _ _ (ne_of h.1 q (by intro z; cases z)) h.1, o _ _ n.symm h.2⟩
def Lp (Z : Ad) (rows : List (List Nat)) (a2 : Addr) (H6 : Hp) (i : Nat) (D : Dk) (s sx srl : Addr) (H' : Hp) : Prop :=
  Stk H' a2 ∧ Off a2 H6 H' ∧ DiskAt Z.a_Disk H' D ∧ Fresh D H6 ∧ StoreAt Z.a_Store H' s sx D.d srl (rows.take i) ∧ srl ≠ D.wl ∧ H6 srl = none ∧ D.now = fl (logT 0 (rows.take i)) ∧ ∃ kk, kk ≤ i ∧ D.kept = fl (logT 0 (rows.take kk)) ∧ D.its = wI kk ((rows.take i).drop kk)
theorem Lp.same {rows : List (List Nat)} {a2 : Addr} {H6 : Hp} {i : Nat} {D : Dk} {s sx srl : Addr} {H H' : Hp} (h : Lp Z rows a2 H6 i D s sx srl H) (e : Same H H') : Lp Z rows a2 H6 i D s sx srl H' := by
  obtain ⟨a, b, c, d, f, g⟩ := h
  exact ⟨a.same e, b.same e, c.same e, d, ⟨e _ _ f.1, e _ _ f.2⟩, g⟩
theorem Lp.off {rows : List (List Nat)} {a2 : Addr} {H6 : Hp} {i : Nat} {D : Dk} {s sx srl : Addr} {H H' : Hp} (h : Lp Z rows a2 H6 i D s sx srl H) (s6 : Stk H6 a2) (o : Off a2 H H') (s' : Stk H' a2) : Lp Z rows a2 H6 i D s sx srl H' := by
  obtain ⟨a, b, c, d, f, g, g2, g3⟩ := h
  exact ⟨s', b.trans o, disk_offL c a (s6.ne d.2.2.2) o, d, store_offL f a (s6.ne g2) o, g, g2, g3⟩
theorem Lp.sync {rows : List (List Nat)} {a2 : Addr} {H6 : Hp} {i : Nat} {D : Dk} {s sx srl wl' : Addr} {H H' : Hp} (h : Lp Z rows a2 H6 i D s sx srl H) (s6 : Stk H6 a2) (nsd : s ≠ D.d) (hw : H wl' = none) (o : Offs [D.d, D.d2] H H') (hD : DiskAt Z.a_Disk H' { D with kept := D.now, wl := wl', wt := [] }) : Lp Z rows a2 H6 i { D with kept := D.now, wl := wl', wt := [] } s sx srl H' := by
  obtain ⟨a, b, c, d, f, g, g2, g3, kk, h1, h2, h3⟩ := h
  obtain ⟨x, y, z, q⟩ := a
  refine ⟨⟨x, y, z, o _ _ (nn_cons (s6.ne d.1) (nn_cons (s6.ne d.2.2.1) nn_nil)) q⟩, fun b1 u hb q1 => o _ _ (nn_cons (ne_of_none q1 d.1) (nn_cons (ne_of_none q1 d.2.2.1) nn_nil)) (b _ _ hb q1), hD, ⟨d.1, d.2.1, d.2.2.1, off_free b q hw⟩, ⟨o _ _ (nn_cons nsd (nn_cons (ne_of f.1 c.h2 (by intro z; cases z)) nn_nil)) f.1, o _ _ (nn_cons (ne_of f.2 c.hd (by intro z; cases z)) (nn_cons (ne_of f.2 c.h2 (by intro z; cases z)) nn_nil)) f.2⟩, ne_of_none f.2 hw, g2, g3, i, Nat.le_refl _, g3, ?_⟩
  rw [List.drop_eq_nil_of_le (by rw [List.length_take]; omega)]
  rfl
theorem Lp.wtl {rows : List (List Nat)} {a2 : Addr} {H6 : Hp} {i : Nat} {D : Dk} {s sx srl : Addr} {H : Hp} (h : Lp Z rows a2 H6 i D s sx srl H) (hn : rows.length ≤ 8) : D.wt.length ≤ 8 := by
  obtain ⟨_, _, _, _, _, _, _, _, kk, _, _, h3⟩ := h
  have : D.its.length = D.wt.length := by rw [Dk.its, List.length_map]
  rw [← this, h3, wI_len, List.length_drop, List.length_take]
  omega
theorem Lp.agn {rows : List (List Nat)} {a2 : Addr} {H6 : Hp} {i : Nat} {D : Dk} {s sx srl : Addr} {H : Hp} (h : Lp Z rows a2 H6 i D s sx srl H) (hi : i ≤ rows.length) (hb : ∀ m, (logT 0 (rows.take m)).length ≤ 16176) : Lg.agn D.kept D.its 1000000 = fl (logT 0 (rows.take i)) ∧ ∀ j, OkF (Lg.agn D.kept (D.its.take j) 1000000) := by
  obtain ⟨_, _, _, _, _, _, _, _, kk, h1, h2, h3⟩ := h
  have key : ∀ j, Lg.agn D.kept (D.its.take j) 1000000 = fl (logT 0 (rows.take (kk + min j (i - kk)))) := fun j => by
    have e : rows.take (kk + min j (i - kk)) = rows.take kk ++ ((rows.take i).drop kk).take j := by
      rw [List.take_add, List.drop_take, List.take_take]
    have e2 := logT_app 0 (rows.take kk) (((rows.take i).drop kk).take j)
    rw [← e, Nat.zero_add, List.length_take, show min kk rows.length = kk by omega] at e2
    have hl := hb (kk + min j (i - kk))
    rw [e2, List.length_append] at hl
    rw [h2, h3, wI_take, agn_wI, List.take_of_length_le (l := logT kk _) (by omega), e2]
  refine ⟨?_, fun j => by rw [key j]; exact ok_fl (Nat.le_trans (hb _) (by decide))⟩
  have hl : D.its.length = i - kk := by rw [h3, wI_len, List.length_drop, List.length_take]; omega
  have := key D.its.length
  rw [List.take_length, hl, Nat.min_self, show kk + (i - kk) = i by omega] at this
  exact this
def Lq (Z : Ad) (rows : List (List Nat)) (a2 : Addr) (H6 : Hp) (i : Nat) (D : Dk) (s sx srl : Addr) (H' : Hp) : Prop :=
  Stk H' a2 ∧ Off a2 H6 H' ∧ DiskAt Z.a_Disk H' D ∧ Fresh D H6 ∧ StoreAt Z.a_Store H' s sx D.d srl (rows.take i) ∧ srl ≠ D.wl ∧ H6 srl = none ∧ D.now = fl (logT 0 (rows.take i)) ∧ D.wt.length ≤ 8 + i
theorem Lq.same {rows : List (List Nat)} {a2 : Addr} {H6 : Hp} {i : Nat} {D : Dk} {s sx srl : Addr} {H H' : Hp} (h : Lq Z rows a2 H6 i D s sx srl H) (e : Same H H') : Lq Z rows a2 H6 i D s sx srl H' := by
  obtain ⟨a, b, c, d, f, g⟩ := h
  exact ⟨a.same e, b.same e, c.same e, d, ⟨e _ _ f.1, e _ _ f.2⟩, g⟩
def sp_law (K : PySem.W.Frag) : Sp := fun vs H Q _ => ∃ (a : Addr) (ns : List Int), vs = [.ref a] ∧ SqL K H a (ns.map V.int) ∧ ns.length ≤ 63 ∧ ∀ H', Q (.bl true) H'
theorem ok_law (T : Txt K w mg Z) {f : Addr} {fd : FuncData} (F : Fun K "law" "law" st_law f fd) : FnOk P w K mg base CX0 13 f fd ["script"] (sp_law K) := by
  refine F.ok sc_law (fun vs H Q E h => by first | (obtain ⟨rfl, _⟩ := h; rfl) | (obtain ⟨_, rfl, _⟩ := h; rfl) | (obtain ⟨_, _, rfl, _⟩ := h; rfl) | (obtain ⟨_, _, _, rfl, _⟩ := h; rfl) | (obtain ⟨_, _, _, _, rfl, _⟩ := h; rfl) | (obtain ⟨_, _, _, _, _, rfl, _⟩ := h; rfl) | (obtain ⟨_, _, _, _, _, _, rfl, _⟩ := h; rfl) | (obtain ⟨_, _, _, _, _, _, _, rfl, _⟩ := h; rfl) | (obtain ⟨_, _, _, _, _, _, _, _, rfl, _⟩ := h; rfl) | (obtain ⟨_, _, _, _, _, _, _, _, _, rfl, _⟩ := h; rfl) | (obtain ⟨_, _, _, _, _, _, _, _, _, _, rfl, _⟩ := h; rfl) | (obtain ⟨_, _, _, _, _, _, _, _, _, _, _, rfl, _⟩ := h; rfl) | (obtain ⟨_, _, _, _, _, _, _, _, _, _, _, _, rfl, _⟩ := h; rfl) | (obtain ⟨_, _, _, _, _, _, _, _, _, _, _, _, _, rfl, _⟩ := h; rfl) | (obtain ⟨_, _, _, _, _, _, _, _, _, _, _, _, _, _, rfl, _⟩ := h; rfl) | (obtain ⟨_, _, _, _, _, _, _, _, _, _, _, _, _, _, _, rfl, _⟩ := h; rfl) | (obtain ⟨_, _, _, _, _, _, _, _, _, _, _, _, _, _, _, _, rfl, _⟩ := h; rfl)) (fun cdv A outer s H vs Q E hr h => ?_)
  obtain ⟨a, ns, rfl, hS, hns, k⟩ := h
  have D_law_stock := d_law_stock (P := P) (base := base) T
  have D_law_draw := d_law_draw (P := P) (base := base) T
  have D_Disk_init := d_Disk_init (P := P) (base := base) T
  have D_Store_init := d_Store_init (P := P) (base := base) T
  have D_law_words := d_law_words (P := P) (base := base) T
  have D_Store_rows := d_Store_rows (P := P) (base := base) T
  have D_Disk_again := d_Disk_again (P := P) (base := base) T
  have D_law_matches := d_law_matches (P := P) (base := base) T
  have D_Disk_read := d_Disk_read (P := P) (base := base) T
  have D_law_log_text := d_law_log_text (P := P) (base := base) T
  have D_law_k04_signs := d_law_k04_signs (P := P) (base := base) T
  have D_log_line := d_log_line (P := P) (base := base) T
  have D_law_log_line := d_law_log_line (P := P) (base := base) T
  have D_Store_append := d_Store_append (P := P) (base := base) T
  have D_recover := d_recover (P := P) (base := base) T
  have D_law_k04_long := d_law_k04_long (P := P) (base := base) T
  have D_Store_sync := d_Store_sync (P := P) (base := base) T
  have D_Disk_waiting := d_Disk_waiting (P := P) (base := base) T
  refine ⟨_, (pss_cons (ps_set (i := 1) sc_law.nd rfl (.inr rfl) (pe_dfn D_law_stock (hr.mono (by decide)) (by rfl) (pa_cons (pv 0) (pa_cons pe_int pa_nil))))
      (pss_cons (ps_set (i := 2) sc_law.nd rfl (.inl rfl) (pe_dfn D_law_stock (hr.mono (by decide)) (by rfl) (pa_cons (pv 0) (pa_cons pe_int pa_nil))))
      (pss_cons (ps_setLc (i := 3) (own := [("turn", 12)]) (by rfl) sc_law.nd rfl rfl (sw_true rfl rfl rfl (by decide +kernel)) (pi_range1 (by rfl) T.b_range (pa_cons (pe_op op_uAdd pe_int (pe_dfn D_law_draw (hr.mono (by decide)) (by rfl) (pa_cons (pv 1) (pa_cons pe_int pa_nil)))) pa_nil)) (blkOk_by (N := n_law) (sc := defScope st_law) (by decide +kernel)) (fun _ _ _ _ _ => (pg_name (i := 12) sc_law.nd rfl (.inl rfl))) (fun _ _ _ _ _ => pts_nil) (fun _ _ _ _ _ => (pe_dfn D_law_words (hr.mono (by decide)) (by rfl) (pa_cons (pv 1) (pa_cons pe_int pa_nil)))))
      (pss_cons (ps_set (i := 4) sc_law.nd rfl (.inl rfl) (pe_dfn D_law_draw (hr.mono (by decide)) (by rfl) (pa_cons (pv 2) (pa_cons (pe_op op_uAdd (pe_op op_pow pe_int pe_int) pe_int) pa_nil))))
      (pss_cons (ps_for PassesOwn.never rfl (pi_list (pv 3)) (pg_name (i := 5) sc_law.nd rfl (.inl rfl))
        (pss_one (ps_if (pt_not (pt_u (pe_dfn (D_law_matches 3) (hr.mono (by decide)) (by rfl) (pa_cons (pe_dfnS D_log_line (hr.mono (by decide)) (by rfl) takes0 (pa_cons (pv 4) (pa_cons (pv 5) pa_nil))) (pa_cons (pe_dfn D_law_log_line (hr.mono (by decide)) (by rfl) (pa_cons (pv 4) (pa_cons (pv 5) pa_nil))) pa_nil))))) (pss_one (ps_ret pe_bl)) pss_nil)))
      (pss_cons (ps_set (i := 6) sc_law.nd rfl (.inl rfl) (pe_ini D_Disk_init (hr.mono (by decide)) (by rfl) (pa_cons pe_non pa_nil)))
      (pss_cons (ps_set (i := 7) sc_law.nd rfl (.inl rfl) (pe_iniS D_Store_init (hr.mono (by decide)) (by rfl) takes0 (pa_cons (pv 6) pa_nil)))
      (pss_cons (ps_set (i := 8) sc_law.nd rfl (.inl rfl) (pe_dfn D_law_draw (hr.mono (by decide)) (by rfl) (pa_cons (pv 2) (pa_cons (pe_op op_uAdd (pe_callB call_uLen (by rfl) T.b_len bt_len (pa_cons (pv 3) pa_nil)) pe_int) pa_nil))))
      (pss_cons (ps_for PassesOwn.never rfl (pi_range1 (by rfl) T.b_range (pa_cons (pv 8) pa_nil)) (pg_name (i := 9) sc_law.nd rfl (.inl rfl))
        (pss_cons (ps_if (PW.pt (pw_or (pt_not (pt_u (pe_dfn (D_law_matches 3) (hr.mono (by decide)) (by rfl) (pa_cons (pe_mthS D_Store_append (hr.mono (by decide)) takes0 (pv 7) (pa_cons (pe_ix ix_seq (pv 3) (pv 9) (fun _ _ => rfl)) pa_nil)) (pa_cons (pe_op op_uAdd (pv 9) pe_int) pa_nil))))) (pw_or1 (pt_cmpR (op_uNe hr.units) (pe_mth D_Disk_read (hr.mono (by decide)) (pv 6) (pa_cons pe_str pa_nil)) (pe_dfn D_law_log_text (hr.mono (by decide)) (by rfl) (pa_cons (pe_slice sl_u (pv 3) po_none (po_some (pe_op op_uAdd (pv 9) pe_int))) pa_nil)) (nomark _))))) (pss_one (ps_ret pe_bl)) pss_nil)
      (pss_cons (ps_set (i := 10) sc_law.nd rfl (.inl rfl) (pe_mth0 D_Store_rows (hr.mono (by decide)) (pv 7)))
      (pss_cons (ps_if (pt_not (pt_u (pe_dfn (D_law_matches 3) (hr.mono (by decide)) (by rfl) (pa_cons (pv 10) (pa_cons (pe_slice sl_u (pv 3) po_none (po_some (pe_op op_uAdd (pv 9) pe_int))) pa_nil))))) (pss_one (ps_ret pe_bl)) pss_nil)
      (pss_cons (ps_expr (pe_bm PySem.F.plainAttrs_list PySem.F.slot_list_append PySem.F.type_list_append mt_append (pv 10) (pa_cons pe_str pa_nil)))
      (pss_one (ps_if (PW.pt (pw_and (pt_cmpR (op_uEq hr.units) (pe_dfn D_law_draw (hr.mono (by decide)) (by rfl) (pa_cons (pv 2) (pa_cons pe_int pa_nil))) pe_int (nomark _)) (pw_and1 (PW.pt (pw_or (pt_cmpR op_uNotN (pe_mth0 D_Store_sync (hr.mono (by decide)) (pv 7)) pe_non (nomark _)) (pw_or1 (pt_cmpR (op_uNe hr.units) (pe_mth0 D_Disk_waiting (hr.mono (by decide)) (pv 6)) pe_int (nomark _)))))))) (pss_one (ps_ret pe_bl)) pss_nil)))))))
      (pss_cons (ps_set (i := 11) sc_law.nd rfl (.inl rfl) (pe_ifExp (pt_cmpR (op_uEq hr.units) (pe_dfn D_law_draw (hr.mono (by decide)) (by rfl) (pa_cons (pv 2) (pa_cons pe_int pa_nil))) pe_int (nomark _)) (pv 6) (pe_mth D_Disk_again (hr.mono (by decide)) (pv 6) (pa_cons (pe_op op_pow pe_int pe_int) (pa_cons pe_non pa_nil)))))
      (pss_cons (ps_set (i := 7) sc_law.nd rfl (.inl rfl) (pe_iniS D_Store_init (hr.mono (by decide)) (by rfl) takes0 (pa_cons (pv 11) pa_nil)))
      (pss_cons (ps_if (PW.pt (pw_or (pt_not (pt_u (pe_dfn (D_law_matches 3) (hr.mono (by decide)) (by rfl) (pa_cons (pe_mth0 D_Store_rows (hr.mono (by decide)) (pv 7)) (pa_cons (pe_slice sl_u (pv 3) po_none (po_some (pv 8))) pa_nil))))) (pw_or1 (pt_cmpR (op_uNe hr.units) (pe_mth D_Disk_read (hr.mono (by decide)) (pv 11) (pa_cons pe_str pa_nil)) (pe_dfn D_law_log_text (hr.mono (by decide)) (by rfl) (pa_cons (pe_slice sl_u (pv 3) po_none (po_some (pv 8))) pa_nil)) (nomark _))))) (pss_one (ps_ret pe_bl)) pss_nil)
      (pss_cons (ps_for PassesOwn.never rfl (pi_range2 (by rfl) T.b_range (pa_cons (pv 8) (pa_cons (pe_callB call_uLen (by rfl) T.b_len bt_len (pa_cons (pv 3) pa_nil)) pa_nil))) (pg_name (i := 9) sc_law.nd rfl (.inl rfl))
        (pss_one (ps_if (pt_not (pt_u (pe_dfn (D_law_matches 3) (hr.mono (by decide)) (by rfl) (pa_cons (pe_mthS D_Store_append (hr.mono (by decide)) takes0 (pv 7) (pa_cons (pe_ix ix_seq (pv 3) (pv 9) (fun _ _ => rfl)) pa_nil)) (pa_cons (pe_op op_uAdd (pv 9) pe_int) pa_nil))))) (pss_one (ps_ret pe_bl)) pss_nil)))
      (pss_cons (ps_if (PW.pt (pw_or (pt_cmpR (op_uNe hr.units) (pe_mth D_Disk_read (hr.mono (by decide)) (pv 11) (pa_cons pe_str pa_nil)) (pe_dfn D_law_log_text (hr.mono (by decide)) (by rfl) (pa_cons (pv 3) pa_nil)) (nomark _)) (pw_or1 (pt_not (pt_u (pe_dfn (D_law_matches 3) (hr.mono (by decide)) (by rfl) (pa_cons (pe_dfnS D_recover (hr.mono (by decide)) (by rfl) takes0 (pa_cons (pv 11) pa_nil)) (pa_cons (pe_tup (pa_cons (pv 3) (pa_cons (pe_tup (pa_cons pe_str pa_nil)) (pa_cons pe_non pa_nil)))) pa_nil)))))))) (pss_one (ps_ret pe_bl)) pss_nil)
      (pss_cons (ps_if (PW.pt (pw_or (pt_not (pt_u (pe_dfn D_law_k04_signs (hr.mono (by decide)) (by rfl) (pa_cons (pv 2) (pa_cons pe_int pa_nil))))) (pw_or1 (pt_not (pt_u (pe_dfn D_law_k04_signs (hr.mono (by decide)) (by rfl) (pa_cons (pv 2) (pa_cons pe_int pa_nil)))))))) (pss_one (ps_ret pe_bl)) pss_nil)
      (pss_one (ps_ret (pe_or (pe_cmpR op_gt (pe_dfn D_law_draw (hr.mono (by decide)) (by rfl) (pa_cons (pv 2) (pa_cons pe_int pa_nil))) pe_int (nomark _)) (pe_one (pe_callB (cr_all rfl) (by rfl) T.b_all bt_all (pa_cons (pe_lc (own := [("many", 13)]) (by rfl) sc_law.nd (pi_list (pe_lst (pa_cons pe_int (pa_cons pe_int (pa_cons pe_int pa_nil))))) (blkOk_by (N := n_law) (sc := defScope st_law) (by decide +kernel)) (fun _ _ _ _ _ => (pg_name (i := 13) sc_law.nd rfl (.inl rfl))) (fun _ _ _ _ _ => pts_nil) (fun _ _ _ _ _ => (pe_dfn D_law_k04_long (hr.mono (by decide)) (by rfl) (pa_cons (pv 13) pa_nil)))) pa_nil))))))))))))))))))))), ?_⟩
  try dsimp only [cxOf, Cx.nox, Cx.wish]
  show (_ : TS) _ [some _, none, none, none, none, none, none, none, none, none, none, none, none, none] _
  o_readsAll
  refine c_stock (at_ := 0) hS hns (by decide) fun a1 H1 f1 e1 s1 => ?_
  o_readsAll
  refine c_stock (at_ := 1) (e1.seq hS) hns (by decide) fun a2 H2 f2 e2 s2 => ?_
  o_readsAll
  refine c_draw (by decide) (by decide) (s1.same e2) fun r0 H3 r00 r01 s3 o3 => ?_
  have n21 : a2 ≠ a1 := (s1.ne f2).symm
  have s23 : Stk H3 a2 := s2.off n21 o3
  o_readsAll
  refine l_it walk_range (fun D i acc H' => ∃ rows : List (List Nat), acc = rows.map (fun r => .str (S r)) ∧ rows.length = i ∧ (∀ r ∈ rows, okW r = true ∧ r.length ≤ 30) ∧ Stk H' a1 ∧ Off a1 H3 H')
    (fun D hD => ⟨[], rfl, rfl, (fun _ h => nomatch h), ?_, ?_⟩) (fun _ _ _ _ _ _ _ _ => trivial) (fun D i x acc H4 H5 hD hi e l p y => ?_) (fun rl acc H4 hD e l p => ?_)
  · obtain ⟨x, y, z, h⟩ := s3
    exact ⟨x, y, z, by rw [upd_ne (ne_of_none h hD)]; exact h⟩
  · intro b u _ q
    rw [upd_ne (ne_of_none q hD)]; exact q
  · obtain ⟨rows, rfl, hrl, hro, s4, o4⟩ := p
    obtain ⟨e1', e2'⟩ := y
    subst e1' e2'
    have nD : a1 ≠ D := s3.ne hD
    refine ⟨rfl, ?_⟩
    o_readsAll
    refine c_words (by decide) (by decide) s4 fun cs H6 hl6 ho6 s6 o6 => ?_
    refine g_item (o6 _ _ nD.symm e) l (by rw [sizeLine_eq]; omega) ⟨rows ++ [cs], by rw [List.map_append]; rfl, by rw [List.length_append, hrl]; rfl, ?_, ?_, ?_⟩
    · intro r hr
      rcases List.mem_append.mp hr with h | h
      · exact hro r h
      · rw [List.mem_singleton.mp h]; exact ⟨ho6, by omega⟩
    · obtain ⟨x, y, z, h⟩ := s6
      exact ⟨x, y, z, by rw [upd_ne nD]; exact h⟩
    · intro b u hb q
      rw [upd_ne (ne_of_none q hD)]
      exact o6 _ _ hb (o4 _ _ hb q)
  · obtain ⟨rows, rfl, hrl, hro, s4, o4⟩ := p
    have hn1 : 1 ≤ rows.length := by omega
    have hn8 : rows.length ≤ 8 := by omega
    have hok : ∀ r ∈ rows, okW r = true := fun r h => (hro r h).1
    have s24 : Stk H4 a2 := s23.off n21 o4
    have nr2 : rl ≠ a2 := (s23.ne hD).symm
    clear hro s4 o4 s3 o3 s23 s1 s2
    o_readsAll
    rw [show ((10 : Int) ^ Int.toNat 20 + 1) = 100000000000000000001 by decide +kernel]
    refine c_draw (by decide +kernel) (by decide +kernel) s24 fun r1 H5 r10 r11 s5 o5 => ?_
    obtain ⟨num, rfl⟩ : ∃ num : Nat, r1 = (num : Int) := ⟨r1.toNat, by omega⟩
    have hnum : num < 2 ^ 100 := by
      have : (100000000000000000001 : Int) < 2 ^ 100 := by decide +kernel
      omega
    have e5 : H5 rl = some (.lst (rows.map fun r => .str (S r))) := o5 _ _ nr2 e
    o_readsAll
    refine f_lst (fun i σ' H' => ∃ x, σ' = [some (.ref a), some (.ref a1), some (.ref a2), some (.ref rl), some (.int (num : Int)), x, none, none, none, none, none, none, none, none] ∧ Same H5 H') ⟨_, rfl, Same.refl _⟩ (fun i σ' H' _ ⟨x, _, e⟩ => .of (e _ _ e5)) ?_ ?_
    · rintro i y σ' H6 hy ⟨x, rfl, e6⟩
      rw [List.getElem?_map] at hy
      obtain ⟨r, hr0, rfl⟩ := Option.map_eq_some_iff.mp hy
      have hro := hok r (List.mem_of_getElem? hr0)
      have hrl := okW_len hro
      have hrc : ∀ c ∈ r, c ≤ 1114111 := fun c hc => by have := (okW_sign hro c hc).2; omega
      o_readsAll
      refine c_lineZ hnum hrl hrc fun H7 e7 => ?_
      o_readsAll
      refine c_ll hnum hrl hrc fun H8 e8 => ?_
      o_readsAll
      refine c_mat (.inr (.inr (.inl ⟨_, rfl, rfl⟩))) fun H9 e9 => ?_
      o_readsAll
      exact ⟨_, rfl, ((e6.trans e7).trans e8).trans e9⟩
    · rintro σ' H6 ⟨x, rfl, e6⟩
      have s6 := s5.same e6
      have r6 := e6 _ _ e5
      have hlr : (rows.map fun r => V.str (S r)).length = rows.length := List.length_map ..
      have hbnd : ∀ m, (logT 0 (rows.take m)).length ≤ 16176 := fun m => by
        have := logT_small (rows := rows.take m) (k := 0) (by omega) (by rw [List.length_take]; omega) (fun r h => hok r (List.mem_of_mem_take h))
        rw [List.length_take] at this
        omega
      clear e5 o5 e6 s5
      o_readsAll
      refine c_dmake fun D0 H7 fr0 e7 n0 k0 w0 hD0 => ?_
      have ok0 : OkF (doIt D0.now (.t "log" 0)) := by rw [n0]; exact (Sm.doIt (sm_fl []) (.t "log" 0)).ok (by decide) (by decide)
      o_readsAll
      refine c_smake (rows := []) (en := .whole) hD0 (by rw [n0]; exact Nat.zero_le _) (by rw [n0]; decide) (by rw [n0]; rfl) (by rw [n0]; rfl) (by rw [n0]; rfl) (fun _ h => nomatch h) ok0 (by rw [w0]; decide) fun H8 D1 s sx srl fs fsl o8 hD1 h81 h82 h83 nw8 hS8 => ?_
      obtain rfl := h82 rfl
      clear h83
      have s68 : Same H6 H8 := Offs.allN e7 o8 (mf_cons fr0.1 (mf_cons fr0.2.1 (mf_cons fr0.2.2.1 (mf_cons fr0.2.2.2 mf_nil))))
      have fs6 : H6 s = none := e7.free fs
      have fsl6 : H6 srl = none := e7.free fsl
      have nsd : s ≠ D1.d := (ne_of_none hD0.hd fs).symm
      o_readsAll
      rw [hlr]
      refine c_draw (by omega) (by omega) (s6.same s68) fun r2 H9 r20 r21 s9 o9 => ?_
      obtain ⟨sf, rfl⟩ : ∃ sf : Nat, r2 = (sf : Int) := ⟨r2.toNat, by omega⟩
      have L0 : Lp Z rows a2 H6 0 D1 s sx srl H9 := Lp.off ⟨s6.same s68, off_of s68, hD1, fr0, hS8, (ne_of_none hD0.hw fsl).symm, fsl6, by rw [n0]; rfl, 0, Nat.le_refl _, by rw [k0]; rfl, by rw [Dk.its, w0]; rfl⟩ s6 o9 s9
      have fr6 := fr0
      have n2r : a2 ≠ rl := nr2.symm
      clear fr0 e7 n0 k0 w0 hD0 ok0 fs fsl o8 hD1 nw8 hS8 s68 s9 o9
      have hsf : sf ≤ rows.length := by omega
      have rows_at : ∀ {i D s sx srl H'}, Lp Z rows a2 H6 i D s sx srl H' → H' rl = some (.lst (rows.map fun r => .str (S r))) := fun h => h.2.1 _ _ nr2 r6
      o_readsAll
      rw [show ((sf : Int)).toNat = sf from Int.toNat_natCast _]
      refine f_rng (fun i σ' H' => ∃ x y z D, σ' = [some (.ref a), some (.ref a1), some (.ref a2), some (.ref rl), some (.int (num : Int)), x, some (.ref D.d), some (.ref s), some (.int (sf : Int)), y, z, none, none, none] ∧ D.d = D1.d ∧ Lp Z rows a2 H6 i D s sx srl H') ⟨_, _, _, D1, rfl, rfl, L0⟩ ?_ ?_
      · rintro i σ' H10 hi ⟨x, y, z, D, rfl, hdd, L10⟩
        have hw : rows[i]? = some (rows[i]'(by omega)) := List.getElem?_eq_getElem (by omega)
        generalize rows[i]'(by omega) = ww at hw
        have how := hok _ (List.mem_of_getElem? hw)
        have hti : (rows.take i).length = i := by rw [List.length_take]; omega
        have hrl10 := rows_at L10
        obtain ⟨s10, o10, hD10, fr10, hS10, nw10, _, n10, kk, hkk, k10, i10⟩ := L10
        have hst := hS10.1
        rw [Int.zero_add]
        o_readsAll
        refine g_ixL (.of hrl10) (atI_nat (by rw [List.getElem?_map, hw]; rfl)) ?_
        o_readsAll
        have hwl : D.wt.length ≤ 8 := by
          have : D.its.length = D.wt.length := by rw [Dk.its, List.length_map]
          rw [← this, i10, wI_len, List.length_drop, hti]; omega
        have hnow : doIt D.now (.w "log" (lnT (rows.take i).length ww)) = fl (logT 0 (rows.take (i + 1))) := by
          rw [n10, do_fl _ _ (lnT_ne _ _), take_snoc hw, logT_snoc, Nat.zero_add]
        refine c_sapp (ws := ww) hD10 rfl hS10 (by rw [hti]; omega) how (by rw [hnow]; exact ok_fl (Nat.le_trans (hbnd _) (by decide))) (by omega) nw10 fun H11 p hp o11 hD11 hS11 => ?_
        have e611 : Off a2 H6 H11 := fun b u hb q => o11 _ _ (fun c hc => ne_of_none q (by
          simp only [List.mem_cons, List.not_mem_nil, or_false] at hc
          rcases hc with rfl | rfl | rfl
          · exact fr10.2.1
          · exact fr10.2.2.2
          · exact fsl6)) (o10 _ _ hb q)
        have s11 : Stk H11 a2 := by
          obtain ⟨x, y, z, q⟩ := s10
          exact ⟨x, y, z, o11 _ _ (nn_cons (s6.ne fr10.2.1) (nn_cons (s6.ne fr10.2.2.2) (nn_cons (s6.ne fsl6) nn_nil))) q⟩
        obtain ⟨D2, hdd2, L11⟩ : ∃ D2 : Dk, D2.d = D.d ∧ Lp Z rows a2 H6 (i + 1) D2 s sx srl H11 := by
          refine ⟨{ D with now := doIt D.now (.w "log" (lnT (rows.take i).length ww)), wt := D.wt ++ [(p, .w "log" (lnT (rows.take i).length ww))] }, rfl, ?_⟩
          refine ⟨s11, e611, hD11, fr10, by rw [take_snoc hw]; exact hS11, nw10, fsl6, hnow, kk, by omega, k10, ?_⟩
          show (D.wt ++ [(p, Itm.w "log" (lnT (rows.take i).length ww))]).map (·.2) = _
          rw [List.map_append, show D.wt.map (·.2) = D.its from rfl, i10, take_snoc hw, List.drop_append_of_le_length (by rw [hti]; exact hkk), wI_snoc, List.length_drop, show kk + ((rows.take i).length - kk) = (rows.take i).length by rw [hti]; omega]
          rfl
        clear e611 s11 hD11 hS11 hD10 hS10 o10 s10
        rw [hti]
        o_readsAll
        refine c_mat (.inr (.inl ⟨_, rfl, rfl⟩)) fun H12 e12 => ?_
        have L12 := L11.same e12
        have hd12 := L12.2.2.1.hd
        rw [hdd2] at hd12
        o_readsAll
        refine c_readE L12.2.2.1 hdd2 ?_
        have hrl12 := rows_at L12
        o_readsAll
        rename_i q13 H13 fq13 e13 h13
        rw [show ((i : Int) + 1) = ((i + 1 : Nat) : Int) by omega, cutV_to, ← List.map_take] at h13
        refine c_text (.of h13) (by rw [List.length_take]; omega) (fun r h => hok r (List.mem_of_mem_take h)) fun H14 e14 => ?_
        have e124 := e13.trans e14
        have L14 := L12.same e124
        rw [L12.2.2.2.2.2.2.2.1, gt_fl]
        have hst14 := L14.2.2.2.2.1.1
        o_readsAll
        refine brn (fun h => absurd rfl h) (fun _ => ?_)
        o_readsAll
        refine c_srows L14.2.2.2.2.1 fun H15 q15 fq15 e15 h15 => ?_
        have L15 := L14.same e15
        have hrl15 := rows_at L15
        o_readsAll
        rename_i q16 H16 fq16 e16 h16
        rw [show ((i : Int) + 1) = ((i + 1 : Nat) : Int) by omega, cutV_to, ← List.map_take] at h16
        refine c_mat (alk_rows (n := 1) (e16 _ _ h15) h16 (by rw [List.length_take]; omega)) fun H17 e17 => ?_
        have h17 := e17 _ _ (e16 _ _ h15)
        o_readsAll
        refine g_app h17 (by rw [List.length_map, List.length_take, sizeLine_eq]; omega) ?_
        have L18 := L14.same (Eg.Same.put ((e15.trans e16).trans e17) (o := .lst ((rows.take (i + 1)).map (fun r => V.str (S r)) ++ [.str "x"])) fq15)
        clear L11 L12 L14 L15 e12 e13 e14 e15 e16 e17 e124 h13 h15 h16 h17 hrl10 hrl12 hrl15 hst hst14 hd12
        o_readsAll
        refine c_draw (by decide) (by decide) L18.1 fun r3 H19 r30 r31 s19 o19 => ?_
        have L19 := L18.off s6 o19 s19
        o_readsAll
        refine br (fun hk => ?_) (fun hk => ?_)
        · have hst19 := L19.2.2.2.2.1.1
          o_readsAll
          refine c_ssync L19.2.2.1 L19.2.2.2.2.1 fun H20 wl' hw20 o20 hD20 => ?_
          have L20 := L19.sync s6 (by rw [hdd2, hdd]; exact nsd) hw20 o20 hD20
          have hd20 := hD20.hd
          rw [show ({ D2 with kept := D2.now, wl := wl', wt := [] } : Dk).d = D.d from hdd2] at hd20
          o_readsAll
          refine c_waitE hD20 hdd2 fun H21 e21 => ?_
          rw [show manys ({ D2 with kept := D2.now, wl := wl', wt := [] } : Dk).its = 0 from rfl]
          o_readsAll
          exact ⟨_, _, _, { D2 with kept := D2.now, wl := wl', wt := [] }, by rw [show ({ D2 with kept := D2.now, wl := wl', wt := [] } : Dk).d = D.d from hdd2]; rfl, hdd2.trans hdd, L20.same e21⟩
        · o_readsAll
          exact ⟨_, _, _, D2, by rw [hdd2]; rfl, hdd2.trans hdd, L19⟩
      · rintro σ' H10 ⟨x, y, z, D, rfl, hdd, L10⟩
        clear L0
        o_readsAll
        refine c_draw (by decide) (by decide) L10.1 fun r3 H11 r30 r31 s11 o11 => ?_
        have L11 := L10.off s6 o11 s11
        clear L10 s11 o11
        o_readsAll
        refine jnE (fun x H' => ∃ Db : Dk, x = .ref Db.d ∧ Stk H' a2 ∧ Off a2 H6 H' ∧ DiskAt Z.a_Disk H' Db ∧ Fresh Db H6 ∧ Db.now = fl (logT 0 (rows.take sf)) ∧ Db.wt.length ≤ 8) ?_ (fun Q' hQ => br (fun hk => ?_) (fun hk => ?_))
        · rintro xb H12 ⟨Db, rfl, s12, o12, hD12, fr12, n12, w12⟩
          clear L11
          have hokt : ∀ r ∈ rows.take sf, okW r = true := fun r h => hok r (List.mem_of_mem_take h)
          have htl : (rows.take sf).length = sf := by rw [List.length_take]; omega
          have hbs := hbnd sf
          have hpl := pcs_len 0 (rows.take sf) [] hokt (by simp)
          have hrec := recP_logT 0 (rows.take sf) [] hokt (by simp)
          rw [List.append_nil] at hpl hrec
          rw [if_pos rfl] at hrec
          have okT : OkF (doIt Db.now (.t "log" (logT 0 (rows.take sf)).length)) := by rw [n12]; exact ((sm_fl _).doIt _).ok (by decide) (by show (logT 0 (rows.take sf)).length + 0 ≤ _; omega)
          o_readsAll
          refine c_smake (D := Db) (rows := rows.take sf) (en := .whole) hD12 (by rw [n12, gt_fl]; omega) (by rw [n12, gt_fl, hpl, htl]; omega) (by rw [n12]; exact gt_flN _ sa) (by rw [n12]; exact gt_flN _ sb) (by rw [n12, gt_fl]; exact hrec) (fun _ h => nomatch h) okT (by omega) fun H13 Dq s2 sx2 srl2 fs2 fsl2 o13 hD13 h131 h132 h133 nw13 hS13 => ?_
          obtain rfl := h132 rfl
          clear h133 h131
          have back : ∀ {b : Addr}, H12 b = none → H6 b = none := fun h => by
            obtain ⟨x, y, z, q⟩ := s12
            exact off_free o12 q h
          have L13 : Lq Z rows a2 H6 sf Dq s2 sx2 srl2 H13 := by
            obtain ⟨x, y, z, q⟩ := s12
            exact ⟨⟨x, y, z, o13 _ _ (nn_cons (s6.ne fr12.1) (nn_cons (s6.ne fr12.2.1) (nn_cons (s6.ne fr12.2.2.1) (nn_cons (s6.ne fr12.2.2.2) nn_nil)))) q⟩,
              fun b u hb q => o13 _ _ (nn_cons (ne_of_none q fr12.1) (nn_cons (ne_of_none q fr12.2.1) (nn_cons (ne_of_none q fr12.2.2.1) (nn_cons (ne_of_none q fr12.2.2.2) nn_nil)))) (o12 _ _ hb q), hD13, fr12, hS13, nw13, back fsl2, n12, by omega⟩
          clear o13 hD13 hS13 okT hrec hpl o12 s12 hD12
          have hst13 := L13.2.2.2.2.1.1
          have rows_atq : ∀ {i D s sx srl H'}, Lq Z rows a2 H6 i D s sx srl H' → H' rl = some (.lst (rows.map fun r => .str (S r))) := fun h => h.2.1 _ _ nr2 r6
          o_readsAll
          refine c_srows L13.2.2.2.2.1 fun H14 q14 fq14 e14 h14 => ?_
          have hrl14 := rows_atq (L13.same e14)
          o_readsAll
          rename_i q15 H15 fq15 e15 h15
          rw [cutV_to, ← List.map_take] at h15
          refine c_mat (alk_rows (n := 1) (e15 _ _ h14) h15 (by omega)) fun H16 e16 => ?_
          have L16 := L13.same ((e14.trans e15).trans e16)
          have hd16 := L16.2.2.1.hd
          have hrl16 := rows_atq L16
          o_readsAll
          refine c_readE L16.2.2.1 rfl ?_
          rw [n12, gt_fl]
          o_readsAll
          rename_i q17 H17 fq17 e17 h17
          rw [cutV_to, ← List.map_take] at h17
          refine c_text (.of h17) (by omega) hokt fun H18 e18 => ?_
          have L18 := L16.same (e17.trans e18)
          have hrl18 := rows_atq L18
          o_readsAll
          refine brn (fun h => absurd rfl h) (fun _ => ?_)
          clear L13 L16 e14 e15 e16 e17 e18 h14 h15 h17 hst13 hd16 hrl14 hrl16 hokt hbs
          o_readsAll
          rw [hlr, show ((rows.length : Int) - (sf : Int)).toNat = rows.length - sf by omega]
          refine f_rng (fun i σ' H' => ∃ y E, σ' = [some (.ref a), some (.ref a1), some (.ref a2), some (.ref rl), some (.int (num : Int)), x, some (.ref D.d), some (.ref s2), some (.int (sf : Int)), y, z, some (.ref Dq.d), none, none] ∧ E.d = Dq.d ∧ Lq Z rows a2 H6 (sf + i) E s2 sx2 srl2 H') ⟨_, Dq, rfl, rfl, L18⟩ ?_ ?_
          · rintro i σ' H19 hi2 ⟨y1, E1, rfl, hdd1, L19⟩
            have hw : rows[sf + i]? = some (rows[sf + i]'(by omega)) := List.getElem?_eq_getElem (by omega)
            generalize rows[sf + i]'(by omega) = ww at hw
            have how := hok _ (List.mem_of_getElem? hw)
            have hti : (rows.take (sf + i)).length = sf + i := by rw [List.length_take]; omega
            have hrl19 := rows_atq L19
            obtain ⟨s19, o19, hD19, fr19, hS19, nw19, _, n19, w19⟩ := L19
            have hst := hS19.1
            rw [show ((sf : Int) + (i : Int)) = ((sf + i : Nat) : Int) by omega]
            o_readsAll
            refine g_ixL (.of hrl19) (atI_nat (by rw [List.getElem?_map, hw]; rfl)) ?_
            o_readsAll
            have hnow : doIt E1.now (.w "log" (lnT (rows.take (sf + i)).length ww)) = fl (logT 0 (rows.take (sf + i + 1))) := by
              rw [n19, do_fl _ _ (lnT_ne _ _), take_snoc hw, logT_snoc, Nat.zero_add]
            refine c_sapp (ws := ww) hD19 rfl hS19 (by rw [hti]; omega) how (by rw [hnow]; exact ok_fl (Nat.le_trans (hbnd _) (by decide))) (by omega) nw19 fun H20 p hp o20 hD20 hS20 => ?_
            have L20 : Lq Z rows a2 H6 (sf + i + 1) { E1 with now := doIt E1.now (.w "log" (lnT (rows.take (sf + i)).length ww)), wt := E1.wt ++ [(p, .w "log" (lnT (rows.take (sf + i)).length ww))] } s2 sx2 srl2 H20 := by
              obtain ⟨x, y, z, q⟩ := s19
              refine ⟨⟨x, y, z, o20 _ _ (nn_cons (s6.ne fr19.2.1) (nn_cons (s6.ne fr19.2.2.2) (nn_cons (s6.ne (back fsl2)) nn_nil))) q⟩, fun b u hb q => o20 _ _ (nn_cons (ne_of_none q fr19.2.1) (nn_cons (ne_of_none q fr19.2.2.2) (nn_cons (ne_of_none q (back fsl2)) nn_nil))) (o19 _ _ hb q), hD20, fr19, by rw [take_snoc hw]; exact hS20, nw19, back fsl2, hnow, ?_⟩
              show (E1.wt ++ _).length ≤ _
              rw [List.length_append]
              show E1.wt.length + 1 ≤ _
              omega
            o_readsAll
            rw [hti]
            o_readsAll
            refine c_mat (.inr (.inl ⟨_, rfl, rfl⟩)) fun H21 e21 => ?_
            o_readsAll
            exact ⟨_, { E1 with now := doIt E1.now (.w "log" (lnT (rows.take (sf + i)).length ww)), wt := E1.wt ++ [(p, .w "log" (lnT (rows.take (sf + i)).length ww))] }, rfl, hdd1, L20.same e21⟩
          · rintro σ' H19 ⟨y1, E1, rfl, hdd1, L19⟩
            rw [show sf + (rows.length - sf) = rows.length by omega] at L19
            have hrl19 := rows_atq L19
            obtain ⟨s19, o19, hD19, fr19, hS19, nw19, _, n19, w19⟩ := L19
            have hd19 := hD19.hd
            rw [hdd1] at hd19
            rw [List.take_length] at n19
            have hbs := hbnd rows.length
            rw [List.take_length] at hbs
            have hpl := pcs_len 0 rows [] hok (by simp)
            have hrec := recP_logT 0 rows [] hok (by simp)
            rw [List.append_nil] at hpl hrec
            rw [if_pos rfl] at hrec
            o_readsAll
            refine c_readE hD19 hdd1 ?_
            rw [n19, gt_fl]
            o_readsAll
            refine c_text (.of hrl19) (by omega) hok fun H20 e20 => ?_
            have hD20 := hD19.same e20
            have hd20 := e20 _ _ hd19
            have hrl20 := e20 _ _ hrl19
            o_readsAll
            refine brn (fun h => absurd rfl h) (fun _ => ?_)
            o_readsAll
            refine c_recE (D := E1) (rows := rows) (en := .whole) hD20 hdd1 (by rw [n19, gt_fl]; omega) (by rw [n19, gt_fl, hpl]; omega) (by rw [n19]; exact gt_flN _ sa) (by rw [n19]; exact gt_flN _ sb) (by rw [n19, gt_fl]; exact hrec) fun H21 p21 a21 b21 fp21 fa21 fb21 e21 ha21 hb21 hp21 => ?_
            have hrl21 := e21 _ _ hrl20
            o_readsAll
            rename_i q22 H22 fq22 e22 h22 q23 H23 fq23 e23 h23
            refine c_mat (alk_rec (e := .whole) (e23 _ _ (e22 _ _ hp21)) h23 (e23 _ _ (e22 _ _ ha21)) (e23 _ _ (e22 _ _ hrl21)) (e23 _ _ (e22 _ _ hb21)) (e23 _ _ h22) (by omega)) fun H24 e24 => ?_
            have s24 := s19.same ((((e20.trans e21).trans e22).trans e23).trans e24)
            clear e20 e21 e22 e23 e24 hp21 ha21 hb21 h22 h23 hD19 hD20 hS19
            o_readsAll
            refine ⟨a2, 0, rfl, by decide, s24, fun H25 s25 o25 => ?_⟩
            o_readsAll
            refine ⟨a2, 1, rfl, by decide, s25, fun H26 s26 o26 => ?_⟩
            o_readsAll
            refine c_draw (by decide) (by decide) s26 fun r5 H27 r50 r51 s27 o27 => ?_
            o_readsAll
            refine br (fun _ => k _) (fun _ => ?_)
            o_readsAll
            rename_i q28 H28 fq28 e28 h28
            refine l_lstP (fun i => .bl true) (.of h28) (fun x => rfl) (fun E1 i x H' hx hE e hl => ?_) fun q H2 hq e2 h2 => ?_
            · obtain ⟨m, rfl, hm⟩ : ∃ m : Nat, x = .int (m : Int) ∧ 1999 ≤ m ∧ m ≤ 2001 := by
                match i with
                | 0 => cases hx; exact ⟨1999, rfl, by decide, by decide⟩
                | 1 => cases hx; exact ⟨2000, rfl, by decide, by decide⟩
                | 2 => cases hx; exact ⟨2001, rfl, by decide, by decide⟩
                | i + 3 => cases hx
              have hi : i < 3 := (List.getElem?_eq_some_iff.mp hx).1
              o_readsAll
              refine ⟨m, rfl, hm.1, hm.2, fun H3 e3 => ?_⟩
              exact g_itemP (e.trans e3) (e3 _ _ hl) hE (by rw [sizeLine_eq]; omega) rfl
            · o_readsAll
              refine g_all (bs := [true, true, true]) (.of h2) ?_
              exact k _
        · o_readsAll
          exact hQ _ _ ⟨D, rfl, L11.1, L11.2.1, L11.2.2.1, L11.2.2.2.1, L11.2.2.2.2.2.2.2.1, L11.wtl hn8⟩
        · have hd11 := L11.2.2.1.hd
          o_readsAll
          rw [show ((10 : Int) ^ Int.toNat 6) = ((1000000 : Nat) : Int) by decide +kernel]
          refine c_again L11.2.2.1 (L11.agn hsf hbnd).2 fun D2 H12 fr12 e12 hD12 n12 k12 w12 => ?_
          have o12 := L11.2.1.same e12
          have back : ∀ {b : Addr}, H11 b = none → H6 b = none := fun h => by
            obtain ⟨x, y, z, q⟩ := L11.1
            exact off_free L11.2.1 q h
          exact hQ _ _ ⟨D2, rfl, L11.1.same e12, o12, hD12, ⟨back fr12.1, back fr12.2.1, back fr12.2.2.1, back fr12.2.2.2⟩, by rw [n12]; exact (L11.agn hsf hbnd).1, by rw [w12]; exact Nat.zero_le _⟩
end
end L04

end
namespace L04
open PySem PySem.Spec PyProof.Rows L2 Rl Eg
/-- an error of its own class is caught -/
theorem exm_own {K : PySem.W.Frag} {C : Addr} (h1 : PySem.W.subIn K (.ref C) (.type "BaseException") = some true) (h2 : PySem.W.isClsIn K C = true) (h3 : PySem.W.typeIn K (.ref C) = some (.type "type")) (h4 : PySem.W.subIn K (.ref C) (.ref C) = some true) : PySem.W.exmOne K (.ref C) (.ref C) = some true := by
  have z : (PySem.W.clsIn K C).isSome = true := h2
  simp only [PySem.W.exmOne, PySem.W.kitCls, h1, h3, h4, z]
  rfl
theorem all_mk {l : PySem.W.OpenLaw} {w : World} {K : PySem.W.Frag} {h : Heap} {mg : Str → Option Value} {fa a_Disk a_Store a_LIMITS a_SLOTS a_TOLD a_TooMany a_WinsError f_TooMany_init f_bound f_is_number f_too_great f_number_of f_log_line f_right_words f_line_words f_numbered_words f_Disk_init f_Disk_spend f_Disk_write f_Disk_trim f_Disk_carry f_Disk_sync f_Disk_read f_Disk_waiting f_Disk_again f_done_to f_items_in f_slot_value f_newest_snap f_recover f_signs_of f_Store_init f_Store_append f_Store_sync f_Store_rows f_law_log_line f_law_log_text f_law_signs f_law_words f_law_stock f_law_draw f_law_matches f_law_k04_signs f_law_k04_long f_law : Addr} (X : K.In h) (G : h.Ns mainGlobals mg) (hfa : mg "law" = some (.ref fa))
    {d_SLOTS od_TooMany_init an_TooMany_init od_bound an_bound od_is_number an_is_number od_too_great an_too_great od_number_of an_number_of od_log_line an_log_line od_right_words an_right_words od_line_words an_line_words od_numbered_words an_numbered_words od_Disk_init an_Disk_init od_Disk_spend an_Disk_spend od_Disk_write an_Disk_write od_Disk_trim an_Disk_trim od_Disk_carry an_Disk_carry od_Disk_sync an_Disk_sync od_Disk_read an_Disk_read od_Disk_waiting an_Disk_waiting od_Disk_again an_Disk_again od_done_to an_done_to od_items_in an_items_in od_slot_value an_slot_value od_newest_snap an_newest_snap od_recover an_recover od_signs_of an_signs_of od_Store_init an_Store_init od_Store_append an_Store_append od_Store_sync an_Store_sync od_Store_rows an_Store_rows od_law_log_line an_law_log_line od_law_log_text an_law_log_text od_law_signs an_law_signs od_law_words an_law_words od_law_stock an_law_stock od_law_draw an_law_draw od_law_matches an_law_matches od_law_k04_signs an_law_k04_signs od_law_k04_long an_law_k04_long od_law an_law : Option Addr}
    {s_SLOTS sl_TooMany_init sl_bound sl_is_number sl_too_great sl_number_of sl_log_line sl_right_words sl_line_words sl_numbered_words sl_Disk_init sl_Disk_spend sl_Disk_write sl_Disk_trim sl_Disk_carry sl_Disk_sync sl_Disk_read sl_Disk_waiting sl_Disk_again sl_done_to sl_items_in sl_slot_value sl_newest_snap sl_recover sl_signs_of sl_Store_init sl_Store_append sl_Store_sync sl_Store_rows sl_law_log_line sl_law_log_text sl_law_signs sl_law_words sl_law_stock sl_law_draw sl_law_matches sl_law_k04_signs sl_law_k04_long sl_law : Array (Option Value)}
    {oc_TooMany_init kV_TooMany_init dc_TooMany_init pm_TooMany_init cd_TooMany_init ct_TooMany_init oc_bound kV_bound dc_bound pm_bound cd_bound ct_bound oc_is_number kV_is_number dc_is_number pm_is_number cd_is_number ct_is_number oc_too_great kV_too_great dc_too_great pm_too_great cd_too_great ct_too_great oc_number_of kV_number_of dc_number_of pm_number_of cd_number_of ct_number_of oc_log_line kV_log_line dc_log_line pm_log_line cd_log_line ct_log_line oc_right_words kV_right_words dc_right_words pm_right_words cd_right_words ct_right_words oc_line_words kV_line_words dc_line_words pm_line_words cd_line_words ct_line_words oc_numbered_words kV_numbered_words dc_numbered_words pm_numbered_words cd_numbered_words ct_numbered_words oc_Disk_init kV_Disk_init dc_Disk_init pm_Disk_init cd_Disk_init ct_Disk_init oc_Disk_spend kV_Disk_spend dc_Disk_spend pm_Disk_spend cd_Disk_spend ct_Disk_spend oc_Disk_write kV_Disk_write dc_Disk_write pm_Disk_write cd_Disk_write ct_Disk_write oc_Disk_trim kV_Disk_trim dc_Disk_trim pm_Disk_trim cd_Disk_trim ct_Disk_trim oc_Disk_carry kV_Disk_carry dc_Disk_carry pm_Disk_carry cd_Disk_carry ct_Disk_carry oc_Disk_sync kV_Disk_sync dc_Disk_sync pm_Disk_sync cd_Disk_sync ct_Disk_sync oc_Disk_read kV_Disk_read dc_Disk_read pm_Disk_read cd_Disk_read ct_Disk_read oc_Disk_waiting kV_Disk_waiting dc_Disk_waiting pm_Disk_waiting cd_Disk_waiting ct_Disk_waiting oc_Disk_again kV_Disk_again dc_Disk_again pm_Disk_again cd_Disk_again ct_Disk_again oc_done_to kV_done_to dc_done_to pm_done_to cd_done_to ct_done_to oc_items_in kV_items_in dc_items_in pm_items_in cd_items_in ct_items_in oc_slot_value kV_slot_value dc_slot_value pm_slot_value cd_slot_value ct_slot_value oc_newest_snap kV_newest_snap dc_newest_snap pm_newest_snap cd_newest_snap ct_newest_snap oc_recover kV_recover dc_recover pm_recover cd_recover ct_recover oc_signs_of kV_signs_of dc_signs_of pm_signs_of cd_signs_of ct_signs_of oc_Store_init kV_Store_init dc_Store_init pm_Store_init cd_Store_init ct_Store_init oc_Store_append kV_Store_append dc_Store_append pm_Store_append cd_Store_append ct_Store_append oc_Store_sync kV_Store_sync dc_Store_sync pm_Store_sync cd_Store_sync ct_Store_sync oc_Store_rows kV_Store_rows dc_Store_rows pm_Store_rows cd_Store_rows ct_Store_rows oc_law_log_line kV_law_log_line dc_law_log_line pm_law_log_line cd_law_log_line ct_law_log_line oc_law_log_text kV_law_log_text dc_law_log_text pm_law_log_text cd_law_log_text ct_law_log_text oc_law_signs kV_law_signs dc_law_signs pm_law_signs cd_law_signs ct_law_signs oc_law_words kV_law_words dc_law_words pm_law_words cd_law_words ct_law_words oc_law_stock kV_law_stock dc_law_stock pm_law_stock cd_law_stock ct_law_stock oc_law_draw kV_law_draw dc_law_draw pm_law_draw cd_law_draw ct_law_draw oc_law_matches kV_law_matches dc_law_matches pm_law_matches cd_law_matches ct_law_matches oc_law_k04_signs kV_law_k04_signs dc_law_k04_signs pm_law_k04_signs cd_law_k04_signs ct_law_k04_signs oc_law_k04_long kV_law_k04_long dc_law_k04_long pm_law_k04_long cd_law_k04_long ct_law_k04_long oc_law kV_law dc_law pm_law cd_law ct_law : Value}
    {t_DIGITS t_GREATEST t_LEAST t_LIMITS_lines t_LIMITS_words t_LIMITS_number t_LIMITS_depth t_LIMITS_blocks t_LIMITS_lanes t_LIMITS_rungs t_LIMITS_ways t_LIMITS_promises t_LIMITS_variables t_LIMITS_states t_LIMITS_rows t_LIMITS_events t_LIMITS_meetings t_LIMITS_housemeetings t_LIMITS_rounds t_LIMITS_late t_LIMITS_plan t_LIMITS_nodes t_LIMITS_players t_LIMITS_log t_LIMITS_signs t_LOG t_PRIME t_SLOTS_0 t_SLOTS_1 t_TOLD_blocks t_TOLD_states t_TOLD_housemeetings : Tok}
    {n_LIMITS n_SLOTS n_TOLD : Nat}
    {nm_TooMany q_TooMany : Str} {N_TooMany : Addr} {bs_TooMany bm_TooMany : List Value} {sn_TooMany : List Str} {sub_TooMany : List Value} {ab_TooMany : Bool} {col_TooMany : Option Bool} {dd_TooMany : Option Addr} {k0_TooMany k1_TooMany k2_TooMany k3_TooMany k5_TooMany : Option Value}
    {e_LIMITS e_TOLD : Array DictEntry}
    (g_Disk : PySem.W.nsIn K mainGlobals "Disk" = some (some (.ref a_Disk)))
    (pg_Disk : PySem.W.plainGet K a_Disk Str.empty = true)
    (hd_Disk : PySem.W.hasDictIn K a_Disk = true)
    (po_Disk : PySem.W.plainOver K a_Disk = true)
    (sa_Disk : PySem.W.findIn K (.ref a_Disk) "__setattr__" = some (some (.builtin "object.__setattr__")))
    (mk_Disk : PySem.W.makesIn K a_Disk = true)
    (kc_Disk : PySem.W.keepIn K (.ref a_Disk) = true)
    (g_Store : PySem.W.nsIn K mainGlobals "Store" = some (some (.ref a_Store)))
    (pg_Store : PySem.W.plainGet K a_Store Str.empty = true)
    (hd_Store : PySem.W.hasDictIn K a_Store = true)
    (po_Store : PySem.W.plainOver K a_Store = true)
    (sa_Store : PySem.W.findIn K (.ref a_Store) "__setattr__" = some (some (.builtin "object.__setattr__")))
    (mk_Store : PySem.W.makesIn K a_Store = true)
    (kc_Store : PySem.W.keepIn K (.ref a_Store) = true)
    (b_ValueError : PySem.W.nsIn K mainGlobals "ValueError" = some none)
    (b_abs : PySem.W.nsIn K mainGlobals "abs" = some none)
    (b_all : PySem.W.nsIn K mainGlobals "all" = some none)
    (b_any : PySem.W.nsIn K mainGlobals "any" = some none)
    (b_bool : PySem.W.nsIn K mainGlobals "bool" = some none)
    (b_enumerate : PySem.W.nsIn K mainGlobals "enumerate" = some none)
    (b_int : PySem.W.nsIn K mainGlobals "int" = some none)
    (b_isinstance : PySem.W.nsIn K mainGlobals "isinstance" = some none)
    (b_len : PySem.W.nsIn K mainGlobals "len" = some none)
    (b_list : PySem.W.nsIn K mainGlobals "list" = some none)
    (b_max : PySem.W.nsIn K mainGlobals "max" = some none)
    (b_min : PySem.W.nsIn K mainGlobals "min" = some none)
    (b_ord : PySem.W.nsIn K mainGlobals "ord" = some none)
    (b_range : PySem.W.nsIn K mainGlobals "range" = some none)
    (b_str : PySem.W.nsIn K mainGlobals "str" = some none)
    (b_sum : PySem.W.nsIn K mainGlobals "sum" = some none)
    (b_tuple : PySem.W.nsIn K mainGlobals "tuple" = some none)
    (c_DIGITS : PySem.W.nsIn K mainGlobals "DIGITS" = some (some (.str "0123456789" t_DIGITS)))
    (c_GREATEST : PySem.W.nsIn K mainGlobals "GREATEST" = some (some (.int (126) t_GREATEST)))
    (c_LEAST : PySem.W.nsIn K mainGlobals "LEAST" = some (some (.int (32) t_LEAST)))
    (c_LIMITS : PySem.W.nsIn K mainGlobals "LIMITS" = some (some (.ref a_LIMITS)))
    (l_LIMITS : K.lookup a_LIMITS = some ⟨.type "dict", none, .dict e_LIMITS n_LIMITS, #[]⟩)
    (kl_LIMITS : PySem.W.KeysLit w.params (e_LIMITS).toList)
    (v_LIMITS_lines : PySem.W.nsIn K a_LIMITS "lines" = some (some (.int 300 t_LIMITS_lines)))
    (v_LIMITS_words : PySem.W.nsIn K a_LIMITS "words" = some (some (.int 60 t_LIMITS_words)))
    (v_LIMITS_number : PySem.W.nsIn K a_LIMITS "number" = some (some (.int 1000000000000000000000000000000 t_LIMITS_number)))
    (v_LIMITS_depth : PySem.W.nsIn K a_LIMITS "depth" = some (some (.int 20 t_LIMITS_depth)))
    (v_LIMITS_blocks : PySem.W.nsIn K a_LIMITS "blocks" = some (some (.int 12 t_LIMITS_blocks)))
    (v_LIMITS_lanes : PySem.W.nsIn K a_LIMITS "lanes" = some (some (.int 6 t_LIMITS_lanes)))
    (v_LIMITS_rungs : PySem.W.nsIn K a_LIMITS "rungs" = some (some (.int 40 t_LIMITS_rungs)))
    (v_LIMITS_ways : PySem.W.nsIn K a_LIMITS "ways" = some (some (.int 8 t_LIMITS_ways)))
    (v_LIMITS_promises : PySem.W.nsIn K a_LIMITS "promises" = some (some (.int 20 t_LIMITS_promises)))
    (v_LIMITS_variables : PySem.W.nsIn K a_LIMITS "variables" = some (some (.int 4 t_LIMITS_variables)))
    (v_LIMITS_states : PySem.W.nsIn K a_LIMITS "states" = some (some (.int 400 t_LIMITS_states)))
    (v_LIMITS_rows : PySem.W.nsIn K a_LIMITS "rows" = some (some (.int 600 t_LIMITS_rows)))
    (v_LIMITS_events : PySem.W.nsIn K a_LIMITS "events" = some (some (.int 3000 t_LIMITS_events)))
    (v_LIMITS_meetings : PySem.W.nsIn K a_LIMITS "meetings" = some (some (.int 3000 t_LIMITS_meetings)))
    (v_LIMITS_housemeetings : PySem.W.nsIn K a_LIMITS "housemeetings" = some (some (.int 400 t_LIMITS_housemeetings)))
    (v_LIMITS_rounds : PySem.W.nsIn K a_LIMITS "rounds" = some (some (.int 300 t_LIMITS_rounds)))
    (v_LIMITS_late : PySem.W.nsIn K a_LIMITS "late" = some (some (.int 6 t_LIMITS_late)))
    (v_LIMITS_plan : PySem.W.nsIn K a_LIMITS "plan" = some (some (.int 200 t_LIMITS_plan)))
    (v_LIMITS_nodes : PySem.W.nsIn K a_LIMITS "nodes" = some (some (.int 2000 t_LIMITS_nodes)))
    (v_LIMITS_players : PySem.W.nsIn K a_LIMITS "players" = some (some (.int 60 t_LIMITS_players)))
    (v_LIMITS_log : PySem.W.nsIn K a_LIMITS "log" = some (some (.int 2000 t_LIMITS_log)))
    (v_LIMITS_signs : PySem.W.nsIn K a_LIMITS "signs" = some (some (.int 2000 t_LIMITS_signs)))
    (c_LOG : PySem.W.nsIn K mainGlobals "LOG" = some (some (.str "log" t_LOG)))
    (c_PRIME : PySem.W.nsIn K mainGlobals "PRIME" = some (some (.int (9973) t_PRIME)))
    (c_SLOTS : PySem.W.nsIn K mainGlobals "SLOTS" = some (some (.ref a_SLOTS)))
    (l_SLOTS : K.lookup a_SLOTS = some ⟨.type "tuple", d_SLOTS, .seq #[.str "snapa" t_SLOTS_0, .str "snapb" t_SLOTS_1] n_SLOTS, s_SLOTS⟩)
    (c_TOLD : PySem.W.nsIn K mainGlobals "TOLD" = some (some (.ref a_TOLD)))
    (l_TOLD : K.lookup a_TOLD = some ⟨.type "dict", none, .dict e_TOLD n_TOLD, #[]⟩)
    (kl_TOLD : PySem.W.KeysLit w.params (e_TOLD).toList)
    (v_TOLD_blocks : PySem.W.nsIn K a_TOLD "blocks" = some (some (.str "depth" t_TOLD_blocks)))
    (v_TOLD_states : PySem.W.nsIn K a_TOLD "states" = some (some (.str "variables" t_TOLD_states)))
    (v_TOLD_housemeetings : PySem.W.nsIn K a_TOLD "housemeetings" = some (some (.str "meetings" t_TOLD_housemeetings)))
    (sm_TOLD : (a_TOLD == sysModules) = false)
    (mi_TOLD_log : PySem.W.nsIn K a_TOLD "log" = some none)
    (mi_TOLD_signs : PySem.W.nsIn K a_TOLD "signs" = some none)
    (n_Disk_power_now : PySem.W.findIn K (.ref a_Disk) "power_now" = some none)
    (n_Disk_files_now : PySem.W.findIn K (.ref a_Disk) "files_now" = some none)
    (n_Disk_files_kept : PySem.W.findIn K (.ref a_Disk) "files_kept" = some none)
    (n_Disk_waiting_list : PySem.W.findIn K (.ref a_Disk) "waiting_list" = some none)
    (n_Store_disk_kept : PySem.W.findIn K (.ref a_Store) "disk_kept" = some none)
    (n_Store_rows_list : PySem.W.findIn K (.ref a_Store) "rows_list" = some none)
    (g_TooMany : PySem.W.nsIn K mainGlobals "TooMany" = some (some (.ref a_TooMany)))
    (xl_TooMany : K.lookup a_TooMany = some (excClassObj nm_TooMany q_TooMany a_TooMany N_TooMany bs_TooMany bm_TooMany true sn_TooMany sub_TooMany ab_TooMany col_TooMany dd_TooMany k0_TooMany k1_TooMany k2_TooMany k3_TooMany k5_TooMany "ValueError.__new__"))
    (rv_TooMany : PySem.HandSPX.refsVE bm_TooMany = true)
    (sa_TooMany : PySem.W.findIn K (.ref a_TooMany) "__setattr__" = some (some (.builtin "object.__setattr__")))
    (ec_TooMany : PySem.W.subIn K (.ref a_TooMany) (.type "BaseException") = some true)
    (ty_TooMany : PySem.W.typeIn K (.ref a_TooMany) = some (.type "type"))
    (kc_TooMany : PySem.W.keepIn K (.ref a_TooMany) = true)
    (ga_TooMany : PySem.W.findIn K (.ref a_TooMany) "__getattribute__" = some (some (.builtin "BaseException.__getattribute__")))
    (gg_TooMany : PySem.W.findIn K (.ref a_TooMany) "__getattr__" = some none)
    (hd_TooMany : PySem.W.hasDictIn K a_TooMany = true)
    (ic_TooMany : PySem.W.isClsIn K a_TooMany = true)
    (ss_TooMany : PySem.W.subIn K (.ref a_TooMany) (.ref a_TooMany) = some true)
    (n_TooMany_what : PySem.W.findIn K (.ref a_TooMany) "what" = some none)
    (g_WinsError : PySem.W.nsIn K mainGlobals "WinsError" = some (some (.ref a_WinsError)))
    (wg_WinsError : PySem.W.specialIn K (.ref a_WinsError) "__getattribute__" = some (some (.builtin "type.__getattribute__")))
    (wr_WinsError : PySem.W.readsIn K a_WinsError (.type "type") = true)
    (wv_WinsError : PySem.W.findCls K (.ref a_WinsError) (.type "type") "__init__" = some (.val (.builtin "ValueError.__init__")))
    (at_TooMany_init : PySem.W.findIn K (.ref a_TooMany) "__init__" = some (some (.ref f_TooMany_init)))
    (tf_TooMany_init : PySem.W.typeIn K (.ref f_TooMany_init) = some (.type "function"))
    (lk_TooMany_init : K.lookup f_TooMany_init = some ⟨oc_TooMany_init, od_TooMany_init, .func (PySem.W.fnOf "__init__" "TooMany.__init__" (defArgs st_TooMany_init) (defBody st_TooMany_init) (defScope st_TooMany_init) .none kV_TooMany_init dc_TooMany_init pm_TooMany_init an_TooMany_init cd_TooMany_init ct_TooMany_init), sl_TooMany_init⟩)
    (co_TooMany_init : PySem.W.codeIn K cd_TooMany_init "TooMany.__init__" = true)
    (kp_TooMany_init : PySem.W.keepIn K (.ref f_TooMany_init) = true)
    (at_bound : PySem.W.nsIn K mainGlobals "bound" = some (some (.ref f_bound)))
    (lk_bound : K.lookup f_bound = some ⟨oc_bound, od_bound, .func (PySem.W.fnOf "bound" "bound" (defArgs st_bound) (defBody st_bound) (defScope st_bound) .none kV_bound dc_bound pm_bound an_bound cd_bound ct_bound), sl_bound⟩)
    (co_bound : PySem.W.codeIn K cd_bound "bound" = true)
    (kp_bound : PySem.W.keepIn K (.ref f_bound) = true)
    (at_is_number : PySem.W.nsIn K mainGlobals "is_number" = some (some (.ref f_is_number)))
    (lk_is_number : K.lookup f_is_number = some ⟨oc_is_number, od_is_number, .func (PySem.W.fnOf "is_number" "is_number" (defArgs st_is_number) (defBody st_is_number) (defScope st_is_number) .none kV_is_number dc_is_number pm_is_number an_is_number cd_is_number ct_is_number), sl_is_number⟩)
    (co_is_number : PySem.W.codeIn K cd_is_number "is_number" = true)
    (kp_is_number : PySem.W.keepIn K (.ref f_is_number) = true)
    (at_too_great : PySem.W.nsIn K mainGlobals "too_great" = some (some (.ref f_too_great)))
    (lk_too_great : K.lookup f_too_great = some ⟨oc_too_great, od_too_great, .func (PySem.W.fnOf "too_great" "too_great" (defArgs st_too_great) (defBody st_too_great) (defScope st_too_great) .none kV_too_great dc_too_great pm_too_great an_too_great cd_too_great ct_too_great), sl_too_great⟩)
    (co_too_great : PySem.W.codeIn K cd_too_great "too_great" = true)
    (kp_too_great : PySem.W.keepIn K (.ref f_too_great) = true)
    (at_number_of : PySem.W.nsIn K mainGlobals "number_of" = some (some (.ref f_number_of)))
    (lk_number_of : K.lookup f_number_of = some ⟨oc_number_of, od_number_of, .func (PySem.W.fnOf "number_of" "number_of" (defArgs st_number_of) (defBody st_number_of) (defScope st_number_of) .none kV_number_of dc_number_of pm_number_of an_number_of cd_number_of ct_number_of), sl_number_of⟩)
    (co_number_of : PySem.W.codeIn K cd_number_of "number_of" = true)
    (kp_number_of : PySem.W.keepIn K (.ref f_number_of) = true)
    (at_log_line : PySem.W.nsIn K mainGlobals "log_line" = some (some (.ref f_log_line)))
    (lk_log_line : K.lookup f_log_line = some ⟨oc_log_line, od_log_line, .func (PySem.W.fnOf "log_line" "log_line" (defArgs st_log_line) (defBody st_log_line) (defScope st_log_line) .none kV_log_line dc_log_line pm_log_line an_log_line cd_log_line ct_log_line), sl_log_line⟩)
    (co_log_line : PySem.W.codeIn K cd_log_line "log_line" = true)
    (kp_log_line : PySem.W.keepIn K (.ref f_log_line) = true)
    (at_right_words : PySem.W.nsIn K mainGlobals "right_words" = some (some (.ref f_right_words)))
    (lk_right_words : K.lookup f_right_words = some ⟨oc_right_words, od_right_words, .func (PySem.W.fnOf "right_words" "right_words" (defArgs st_right_words) (defBody st_right_words) (defScope st_right_words) .none kV_right_words dc_right_words pm_right_words an_right_words cd_right_words ct_right_words), sl_right_words⟩)
    (co_right_words : PySem.W.codeIn K cd_right_words "right_words" = true)
    (kp_right_words : PySem.W.keepIn K (.ref f_right_words) = true)
    (at_line_words : PySem.W.nsIn K mainGlobals "line_words" = some (some (.ref f_line_words)))
    (lk_line_words : K.lookup f_line_words = some ⟨oc_line_words, od_line_words, .func (PySem.W.fnOf "line_words" "line_words" (defArgs st_line_words) (defBody st_line_words) (defScope st_line_words) .none kV_line_words dc_line_words pm_line_words an_line_words cd_line_words ct_line_words), sl_line_words⟩)
    (co_line_words : PySem.W.codeIn K cd_line_words "line_words" = true)
    (kp_line_words : PySem.W.keepIn K (.ref f_line_words) = true)
    (at_numbered_words : PySem.W.nsIn K mainGlobals "numbered_words" = some (some (.ref f_numbered_words)))
    (lk_numbered_words : K.lookup f_numbered_words = some ⟨oc_numbered_words, od_numbered_words, .func (PySem.W.fnOf "numbered_words" "numbered_words" (defArgs st_numbered_words) (defBody st_numbered_words) (defScope st_numbered_words) .none kV_numbered_words dc_numbered_words pm_numbered_words an_numbered_words cd_numbered_words ct_numbered_words), sl_numbered_words⟩)
    (co_numbered_words : PySem.W.codeIn K cd_numbered_words "numbered_words" = true)
    (kp_numbered_words : PySem.W.keepIn K (.ref f_numbered_words) = true)
    (at_Disk_init : PySem.W.findIn K (.ref a_Disk) "__init__" = some (some (.ref f_Disk_init)))
    (fn_Disk_init : PySem.W.isFn K (.ref f_Disk_init) = true)
    (lk_Disk_init : K.lookup f_Disk_init = some ⟨oc_Disk_init, od_Disk_init, .func (PySem.W.fnOf "__init__" "Disk.__init__" (defArgs st_Disk_init) (defBody st_Disk_init) (defScope st_Disk_init) .none kV_Disk_init dc_Disk_init pm_Disk_init an_Disk_init cd_Disk_init ct_Disk_init), sl_Disk_init⟩)
    (co_Disk_init : PySem.W.codeIn K cd_Disk_init "Disk.__init__" = true)
    (kp_Disk_init : PySem.W.keepIn K (.ref f_Disk_init) = true)
    (at_Disk_spend : PySem.W.findIn K (.ref a_Disk) "spend" = some (some (.ref f_Disk_spend)))
    (fn_Disk_spend : PySem.W.isFn K (.ref f_Disk_spend) = true)
    (lk_Disk_spend : K.lookup f_Disk_spend = some ⟨oc_Disk_spend, od_Disk_spend, .func (PySem.W.fnOf "spend" "Disk.spend" (defArgs st_Disk_spend) (defBody st_Disk_spend) (defScope st_Disk_spend) .none kV_Disk_spend dc_Disk_spend pm_Disk_spend an_Disk_spend cd_Disk_spend ct_Disk_spend), sl_Disk_spend⟩)
    (co_Disk_spend : PySem.W.codeIn K cd_Disk_spend "Disk.spend" = true)
    (kp_Disk_spend : PySem.W.keepIn K (.ref f_Disk_spend) = true)
    (at_Disk_write : PySem.W.findIn K (.ref a_Disk) "write" = some (some (.ref f_Disk_write)))
    (fn_Disk_write : PySem.W.isFn K (.ref f_Disk_write) = true)
    (lk_Disk_write : K.lookup f_Disk_write = some ⟨oc_Disk_write, od_Disk_write, .func (PySem.W.fnOf "write" "Disk.write" (defArgs st_Disk_write) (defBody st_Disk_write) (defScope st_Disk_write) .none kV_Disk_write dc_Disk_write pm_Disk_write an_Disk_write cd_Disk_write ct_Disk_write), sl_Disk_write⟩)
    (co_Disk_write : PySem.W.codeIn K cd_Disk_write "Disk.write" = true)
    (kp_Disk_write : PySem.W.keepIn K (.ref f_Disk_write) = true)
    (at_Disk_trim : PySem.W.findIn K (.ref a_Disk) "trim" = some (some (.ref f_Disk_trim)))
    (fn_Disk_trim : PySem.W.isFn K (.ref f_Disk_trim) = true)
    (lk_Disk_trim : K.lookup f_Disk_trim = some ⟨oc_Disk_trim, od_Disk_trim, .func (PySem.W.fnOf "trim" "Disk.trim" (defArgs st_Disk_trim) (defBody st_Disk_trim) (defScope st_Disk_trim) .none kV_Disk_trim dc_Disk_trim pm_Disk_trim an_Disk_trim cd_Disk_trim ct_Disk_trim), sl_Disk_trim⟩)
    (co_Disk_trim : PySem.W.codeIn K cd_Disk_trim "Disk.trim" = true)
    (kp_Disk_trim : PySem.W.keepIn K (.ref f_Disk_trim) = true)
    (at_Disk_carry : PySem.W.findIn K (.ref a_Disk) "carry" = some (some (.ref f_Disk_carry)))
    (fn_Disk_carry : PySem.W.isFn K (.ref f_Disk_carry) = true)
    (lk_Disk_carry : K.lookup f_Disk_carry = some ⟨oc_Disk_carry, od_Disk_carry, .func (PySem.W.fnOf "carry" "Disk.carry" (defArgs st_Disk_carry) (defBody st_Disk_carry) (defScope st_Disk_carry) .none kV_Disk_carry dc_Disk_carry pm_Disk_carry an_Disk_carry cd_Disk_carry ct_Disk_carry), sl_Disk_carry⟩)
    (co_Disk_carry : PySem.W.codeIn K cd_Disk_carry "Disk.carry" = true)
    (kp_Disk_carry : PySem.W.keepIn K (.ref f_Disk_carry) = true)
    (at_Disk_sync : PySem.W.findIn K (.ref a_Disk) "sync" = some (some (.ref f_Disk_sync)))
    (fn_Disk_sync : PySem.W.isFn K (.ref f_Disk_sync) = true)
    (lk_Disk_sync : K.lookup f_Disk_sync = some ⟨oc_Disk_sync, od_Disk_sync, .func (PySem.W.fnOf "sync" "Disk.sync" (defArgs st_Disk_sync) (defBody st_Disk_sync) (defScope st_Disk_sync) .none kV_Disk_sync dc_Disk_sync pm_Disk_sync an_Disk_sync cd_Disk_sync ct_Disk_sync), sl_Disk_sync⟩)
    (co_Disk_sync : PySem.W.codeIn K cd_Disk_sync "Disk.sync" = true)
    (kp_Disk_sync : PySem.W.keepIn K (.ref f_Disk_sync) = true)
    (at_Disk_read : PySem.W.findIn K (.ref a_Disk) "read" = some (some (.ref f_Disk_read)))
    (fn_Disk_read : PySem.W.isFn K (.ref f_Disk_read) = true)
    (lk_Disk_read : K.lookup f_Disk_read = some ⟨oc_Disk_read, od_Disk_read, .func (PySem.W.fnOf "read" "Disk.read" (defArgs st_Disk_read) (defBody st_Disk_read) (defScope st_Disk_read) .none kV_Disk_read dc_Disk_read pm_Disk_read an_Disk_read cd_Disk_read ct_Disk_read), sl_Disk_read⟩)
    (co_Disk_read : PySem.W.codeIn K cd_Disk_read "Disk.read" = true)
    (kp_Disk_read : PySem.W.keepIn K (.ref f_Disk_read) = true)
    (at_Disk_waiting : PySem.W.findIn K (.ref a_Disk) "waiting" = some (some (.ref f_Disk_waiting)))
    (fn_Disk_waiting : PySem.W.isFn K (.ref f_Disk_waiting) = true)
    (lk_Disk_waiting : K.lookup f_Disk_waiting = some ⟨oc_Disk_waiting, od_Disk_waiting, .func (PySem.W.fnOf "waiting" "Disk.waiting" (defArgs st_Disk_waiting) (defBody st_Disk_waiting) (defScope st_Disk_waiting) .none kV_Disk_waiting dc_Disk_waiting pm_Disk_waiting an_Disk_waiting cd_Disk_waiting ct_Disk_waiting), sl_Disk_waiting⟩)
    (co_Disk_waiting : PySem.W.codeIn K cd_Disk_waiting "Disk.waiting" = true)
    (kp_Disk_waiting : PySem.W.keepIn K (.ref f_Disk_waiting) = true)
    (at_Disk_again : PySem.W.findIn K (.ref a_Disk) "again" = some (some (.ref f_Disk_again)))
    (fn_Disk_again : PySem.W.isFn K (.ref f_Disk_again) = true)
    (lk_Disk_again : K.lookup f_Disk_again = some ⟨oc_Disk_again, od_Disk_again, .func (PySem.W.fnOf "again" "Disk.again" (defArgs st_Disk_again) (defBody st_Disk_again) (defScope st_Disk_again) .none kV_Disk_again dc_Disk_again pm_Disk_again an_Disk_again cd_Disk_again ct_Disk_again), sl_Disk_again⟩)
    (co_Disk_again : PySem.W.codeIn K cd_Disk_again "Disk.again" = true)
    (kp_Disk_again : PySem.W.keepIn K (.ref f_Disk_again) = true)
    (at_done_to : PySem.W.nsIn K mainGlobals "done_to" = some (some (.ref f_done_to)))
    (lk_done_to : K.lookup f_done_to = some ⟨oc_done_to, od_done_to, .func (PySem.W.fnOf "done_to" "done_to" (defArgs st_done_to) (defBody st_done_to) (defScope st_done_to) .none kV_done_to dc_done_to pm_done_to an_done_to cd_done_to ct_done_to), sl_done_to⟩)
    (co_done_to : PySem.W.codeIn K cd_done_to "done_to" = true)
    (kp_done_to : PySem.W.keepIn K (.ref f_done_to) = true)
    (at_items_in : PySem.W.nsIn K mainGlobals "items_in" = some (some (.ref f_items_in)))
    (lk_items_in : K.lookup f_items_in = some ⟨oc_items_in, od_items_in, .func (PySem.W.fnOf "items_in" "items_in" (defArgs st_items_in) (defBody st_items_in) (defScope st_items_in) .none kV_items_in dc_items_in pm_items_in an_items_in cd_items_in ct_items_in), sl_items_in⟩)
    (co_items_in : PySem.W.codeIn K cd_items_in "items_in" = true)
    (kp_items_in : PySem.W.keepIn K (.ref f_items_in) = true)
    (at_slot_value : PySem.W.nsIn K mainGlobals "slot_value" = some (some (.ref f_slot_value)))
    (lk_slot_value : K.lookup f_slot_value = some ⟨oc_slot_value, od_slot_value, .func (PySem.W.fnOf "slot_value" "slot_value" (defArgs st_slot_value) (defBody st_slot_value) (defScope st_slot_value) .none kV_slot_value dc_slot_value pm_slot_value an_slot_value cd_slot_value ct_slot_value), sl_slot_value⟩)
    (co_slot_value : PySem.W.codeIn K cd_slot_value "slot_value" = true)
    (kp_slot_value : PySem.W.keepIn K (.ref f_slot_value) = true)
    (at_newest_snap : PySem.W.nsIn K mainGlobals "newest_snap" = some (some (.ref f_newest_snap)))
    (lk_newest_snap : K.lookup f_newest_snap = some ⟨oc_newest_snap, od_newest_snap, .func (PySem.W.fnOf "newest_snap" "newest_snap" (defArgs st_newest_snap) (defBody st_newest_snap) (defScope st_newest_snap) .none kV_newest_snap dc_newest_snap pm_newest_snap an_newest_snap cd_newest_snap ct_newest_snap), sl_newest_snap⟩)
    (co_newest_snap : PySem.W.codeIn K cd_newest_snap "newest_snap" = true)
    (kp_newest_snap : PySem.W.keepIn K (.ref f_newest_snap) = true)
    (at_recover : PySem.W.nsIn K mainGlobals "recover" = some (some (.ref f_recover)))
    (lk_recover : K.lookup f_recover = some ⟨oc_recover, od_recover, .func (PySem.W.fnOf "recover" "recover" (defArgs st_recover) (defBody st_recover) (defScope st_recover) .none kV_recover dc_recover pm_recover an_recover cd_recover ct_recover), sl_recover⟩)
    (co_recover : PySem.W.codeIn K cd_recover "recover" = true)
    (kp_recover : PySem.W.keepIn K (.ref f_recover) = true)
    (at_signs_of : PySem.W.nsIn K mainGlobals "signs_of" = some (some (.ref f_signs_of)))
    (lk_signs_of : K.lookup f_signs_of = some ⟨oc_signs_of, od_signs_of, .func (PySem.W.fnOf "signs_of" "signs_of" (defArgs st_signs_of) (defBody st_signs_of) (defScope st_signs_of) .none kV_signs_of dc_signs_of pm_signs_of an_signs_of cd_signs_of ct_signs_of), sl_signs_of⟩)
    (co_signs_of : PySem.W.codeIn K cd_signs_of "signs_of" = true)
    (kp_signs_of : PySem.W.keepIn K (.ref f_signs_of) = true)
    (at_Store_init : PySem.W.findIn K (.ref a_Store) "__init__" = some (some (.ref f_Store_init)))
    (fn_Store_init : PySem.W.isFn K (.ref f_Store_init) = true)
    (lk_Store_init : K.lookup f_Store_init = some ⟨oc_Store_init, od_Store_init, .func (PySem.W.fnOf "__init__" "Store.__init__" (defArgs st_Store_init) (defBody st_Store_init) (defScope st_Store_init) .none kV_Store_init dc_Store_init pm_Store_init an_Store_init cd_Store_init ct_Store_init), sl_Store_init⟩)
    (co_Store_init : PySem.W.codeIn K cd_Store_init "Store.__init__" = true)
    (kp_Store_init : PySem.W.keepIn K (.ref f_Store_init) = true)
    (at_Store_append : PySem.W.findIn K (.ref a_Store) "append" = some (some (.ref f_Store_append)))
    (fn_Store_append : PySem.W.isFn K (.ref f_Store_append) = true)
    (lk_Store_append : K.lookup f_Store_append = some ⟨oc_Store_append, od_Store_append, .func (PySem.W.fnOf "append" "Store.append" (defArgs st_Store_append) (defBody st_Store_append) (defScope st_Store_append) .none kV_Store_append dc_Store_append pm_Store_append an_Store_append cd_Store_append ct_Store_append), sl_Store_append⟩)
    (co_Store_append : PySem.W.codeIn K cd_Store_append "Store.append" = true)
    (kp_Store_append : PySem.W.keepIn K (.ref f_Store_append) = true)
    (at_Store_sync : PySem.W.findIn K (.ref a_Store) "sync" = some (some (.ref f_Store_sync)))
    (fn_Store_sync : PySem.W.isFn K (.ref f_Store_sync) = true)
    (lk_Store_sync : K.lookup f_Store_sync = some ⟨oc_Store_sync, od_Store_sync, .func (PySem.W.fnOf "sync" "Store.sync" (defArgs st_Store_sync) (defBody st_Store_sync) (defScope st_Store_sync) .none kV_Store_sync dc_Store_sync pm_Store_sync an_Store_sync cd_Store_sync ct_Store_sync), sl_Store_sync⟩)
    (co_Store_sync : PySem.W.codeIn K cd_Store_sync "Store.sync" = true)
    (kp_Store_sync : PySem.W.keepIn K (.ref f_Store_sync) = true)
    (at_Store_rows : PySem.W.findIn K (.ref a_Store) "rows" = some (some (.ref f_Store_rows)))
    (fn_Store_rows : PySem.W.isFn K (.ref f_Store_rows) = true)
    (lk_Store_rows : K.lookup f_Store_rows = some ⟨oc_Store_rows, od_Store_rows, .func (PySem.W.fnOf "rows" "Store.rows" (defArgs st_Store_rows) (defBody st_Store_rows) (defScope st_Store_rows) .none kV_Store_rows dc_Store_rows pm_Store_rows an_Store_rows cd_Store_rows ct_Store_rows), sl_Store_rows⟩)
    (co_Store_rows : PySem.W.codeIn K cd_Store_rows "Store.rows" = true)
    (kp_Store_rows : PySem.W.keepIn K (.ref f_Store_rows) = true)
    (at_law_log_line : PySem.W.nsIn K mainGlobals "_law_log_line" = some (some (.ref f_law_log_line)))
    (lk_law_log_line : K.lookup f_law_log_line = some ⟨oc_law_log_line, od_law_log_line, .func (PySem.W.fnOf "_law_log_line" "_law_log_line" (defArgs st_law_log_line) (defBody st_law_log_line) (defScope st_law_log_line) .none kV_law_log_line dc_law_log_line pm_law_log_line an_law_log_line cd_law_log_line ct_law_log_line), sl_law_log_line⟩)
    (co_law_log_line : PySem.W.codeIn K cd_law_log_line "_law_log_line" = true)
    (kp_law_log_line : PySem.W.keepIn K (.ref f_law_log_line) = true)
    (at_law_log_text : PySem.W.nsIn K mainGlobals "_law_log_text" = some (some (.ref f_law_log_text)))
    (lk_law_log_text : K.lookup f_law_log_text = some ⟨oc_law_log_text, od_law_log_text, .func (PySem.W.fnOf "_law_log_text" "_law_log_text" (defArgs st_law_log_text) (defBody st_law_log_text) (defScope st_law_log_text) .none kV_law_log_text dc_law_log_text pm_law_log_text an_law_log_text cd_law_log_text ct_law_log_text), sl_law_log_text⟩)
    (co_law_log_text : PySem.W.codeIn K cd_law_log_text "_law_log_text" = true)
    (kp_law_log_text : PySem.W.keepIn K (.ref f_law_log_text) = true)
    (at_law_signs : PySem.W.nsIn K mainGlobals "_law_signs" = some (some (.ref f_law_signs)))
    (lk_law_signs : K.lookup f_law_signs = some ⟨oc_law_signs, od_law_signs, .func (PySem.W.fnOf "_law_signs" "_law_signs" (defArgs st_law_signs) (defBody st_law_signs) (defScope st_law_signs) .none kV_law_signs dc_law_signs pm_law_signs an_law_signs cd_law_signs ct_law_signs), sl_law_signs⟩)
    (co_law_signs : PySem.W.codeIn K cd_law_signs "_law_signs" = true)
    (kp_law_signs : PySem.W.keepIn K (.ref f_law_signs) = true)
    (at_law_words : PySem.W.nsIn K mainGlobals "_law_words" = some (some (.ref f_law_words)))
    (lk_law_words : K.lookup f_law_words = some ⟨oc_law_words, od_law_words, .func (PySem.W.fnOf "_law_words" "_law_words" (defArgs st_law_words) (defBody st_law_words) (defScope st_law_words) .none kV_law_words dc_law_words pm_law_words an_law_words cd_law_words ct_law_words), sl_law_words⟩)
    (co_law_words : PySem.W.codeIn K cd_law_words "_law_words" = true)
    (kp_law_words : PySem.W.keepIn K (.ref f_law_words) = true)
    (at_law_stock : PySem.W.nsIn K mainGlobals "_law_stock" = some (some (.ref f_law_stock)))
    (lk_law_stock : K.lookup f_law_stock = some ⟨oc_law_stock, od_law_stock, .func (PySem.W.fnOf "_law_stock" "_law_stock" (defArgs st_law_stock) (defBody st_law_stock) (defScope st_law_stock) .none kV_law_stock dc_law_stock pm_law_stock an_law_stock cd_law_stock ct_law_stock), sl_law_stock⟩)
    (co_law_stock : PySem.W.codeIn K cd_law_stock "_law_stock" = true)
    (kp_law_stock : PySem.W.keepIn K (.ref f_law_stock) = true)
    (at_law_draw : PySem.W.nsIn K mainGlobals "_law_draw" = some (some (.ref f_law_draw)))
    (lk_law_draw : K.lookup f_law_draw = some ⟨oc_law_draw, od_law_draw, .func (PySem.W.fnOf "_law_draw" "_law_draw" (defArgs st_law_draw) (defBody st_law_draw) (defScope st_law_draw) .none kV_law_draw dc_law_draw pm_law_draw an_law_draw cd_law_draw ct_law_draw), sl_law_draw⟩)
    (co_law_draw : PySem.W.codeIn K cd_law_draw "_law_draw" = true)
    (kp_law_draw : PySem.W.keepIn K (.ref f_law_draw) = true)
    (at_law_matches : PySem.W.nsIn K mainGlobals "_law_matches" = some (some (.ref f_law_matches)))
    (lk_law_matches : K.lookup f_law_matches = some ⟨oc_law_matches, od_law_matches, .func (PySem.W.fnOf "_law_matches" "_law_matches" (defArgs st_law_matches) (defBody st_law_matches) (defScope st_law_matches) .none kV_law_matches dc_law_matches pm_law_matches an_law_matches cd_law_matches ct_law_matches), sl_law_matches⟩)
    (co_law_matches : PySem.W.codeIn K cd_law_matches "_law_matches" = true)
    (kp_law_matches : PySem.W.keepIn K (.ref f_law_matches) = true)
    (at_law_k04_signs : PySem.W.nsIn K mainGlobals "_law_k04_signs" = some (some (.ref f_law_k04_signs)))
    (lk_law_k04_signs : K.lookup f_law_k04_signs = some ⟨oc_law_k04_signs, od_law_k04_signs, .func (PySem.W.fnOf "_law_k04_signs" "_law_k04_signs" (defArgs st_law_k04_signs) (defBody st_law_k04_signs) (defScope st_law_k04_signs) .none kV_law_k04_signs dc_law_k04_signs pm_law_k04_signs an_law_k04_signs cd_law_k04_signs ct_law_k04_signs), sl_law_k04_signs⟩)
    (co_law_k04_signs : PySem.W.codeIn K cd_law_k04_signs "_law_k04_signs" = true)
    (kp_law_k04_signs : PySem.W.keepIn K (.ref f_law_k04_signs) = true)
    (at_law_k04_long : PySem.W.nsIn K mainGlobals "_law_k04_long" = some (some (.ref f_law_k04_long)))
    (lk_law_k04_long : K.lookup f_law_k04_long = some ⟨oc_law_k04_long, od_law_k04_long, .func (PySem.W.fnOf "_law_k04_long" "_law_k04_long" (defArgs st_law_k04_long) (defBody st_law_k04_long) (defScope st_law_k04_long) .none kV_law_k04_long dc_law_k04_long pm_law_k04_long an_law_k04_long cd_law_k04_long ct_law_k04_long), sl_law_k04_long⟩)
    (co_law_k04_long : PySem.W.codeIn K cd_law_k04_long "_law_k04_long" = true)
    (kp_law_k04_long : PySem.W.keepIn K (.ref f_law_k04_long) = true)
    (at_law : PySem.W.nsIn K mainGlobals "law" = some (some (.ref f_law)))
    (lk_law : K.lookup f_law = some ⟨oc_law, od_law, .func (PySem.W.fnOf "law" "law" (defArgs st_law) (defBody st_law) (defScope st_law) .none kV_law dc_law pm_law an_law cd_law ct_law), sl_law⟩)
    (co_law : PySem.W.codeIn K cd_law "law" = true)
    (kp_law : PySem.W.keepIn K (.ref f_law) = true) :
    ∃ fd : FuncData, (∀ (s : Shared) (v : Value), BindsTo s fd ⟨[v], []⟩ [("script", v)]) ∧ ∀ base : Heap, K.In base → base.Ns mainGlobals mg → FnOk l.prog w K mg base CX0 13 fa fd ["script"] (sp_law K) := by
  have e := hfa.symm.trans (PySem.W.mg_of X G at_law)
  cases e
  have F_TooMany_init := fun_mk (st := st_TooMany_init) lk_TooMany_init co_TooMany_init kp_TooMany_init
  have B_TooMany_init := F_TooMany_init.binds (ps := ["self", "what"]) fun _ _ _ _ _ _ us hl => match us, hl with | [_, _], _ => rfl
  have F_bound := fun_mk (st := st_bound) lk_bound co_bound kp_bound
  have B_bound := F_bound.binds (ps := ["what", "number"]) fun _ _ _ _ _ _ us hl => match us, hl with | [_, _], _ => rfl
  have F_is_number := fun_mk (st := st_is_number) lk_is_number co_is_number kp_is_number
  have B_is_number := F_is_number.binds (ps := ["word"]) fun _ _ _ _ _ _ us hl => match us, hl with | [_], _ => rfl
  have F_too_great := fun_mk (st := st_too_great) lk_too_great co_too_great kp_too_great
  have B_too_great := F_too_great.binds (ps := ["word"]) fun _ _ _ _ _ _ us hl => match us, hl with | [_], _ => rfl
  have F_number_of := fun_mk (st := st_number_of) lk_number_of co_number_of kp_number_of
  have B_number_of := F_number_of.binds (ps := ["word"]) fun _ _ _ _ _ _ us hl => match us, hl with | [_], _ => rfl
  have F_log_line := fun_mk (st := st_log_line) lk_log_line co_log_line kp_log_line
  have B_log_line := F_log_line.binds (ps := ["number", "words"]) fun _ _ _ _ _ _ us hl => match us, hl with | [_, _], _ => rfl
  have F_right_words := fun_mk (st := st_right_words) lk_right_words co_right_words kp_right_words
  have B_right_words := F_right_words.binds (ps := ["words"]) fun _ _ _ _ _ _ us hl => match us, hl with | [_], _ => rfl
  have F_line_words := fun_mk (st := st_line_words) lk_line_words co_line_words kp_line_words
  have B_line_words := F_line_words.binds (ps := ["piece", "number"]) fun _ _ _ _ _ _ us hl => match us, hl with | [_, _], _ => rfl
  have F_numbered_words := fun_mk (st := st_numbered_words) lk_numbered_words co_numbered_words kp_numbered_words
  have B_numbered_words := F_numbered_words.binds (ps := ["piece"]) fun _ _ _ _ _ _ us hl => match us, hl with | [_], _ => rfl
  have F_Disk_init := fun_mk (st := st_Disk_init) lk_Disk_init co_Disk_init kp_Disk_init
  have B_Disk_init := F_Disk_init.binds (ps := ["self", "power"]) fun _ _ _ _ _ _ us hl => match us, hl with | [_, _], _ => rfl
  have F_Disk_spend := fun_mk (st := st_Disk_spend) lk_Disk_spend co_Disk_spend kp_Disk_spend
  have B_Disk_spend := F_Disk_spend.binds (ps := ["self"]) fun _ _ _ _ _ _ us hl => match us, hl with | [_], _ => rfl
  have F_Disk_write := fun_mk (st := st_Disk_write) lk_Disk_write co_Disk_write kp_Disk_write
  have B_Disk_write := F_Disk_write.binds (ps := ["self", "file", "text"]) fun _ _ _ _ _ _ us hl => match us, hl with | [_, _, _], _ => rfl
  have F_Disk_trim := fun_mk (st := st_Disk_trim) lk_Disk_trim co_Disk_trim kp_Disk_trim
  have B_Disk_trim := F_Disk_trim.binds (ps := ["self", "file", "signs"]) fun _ _ _ _ _ _ us hl => match us, hl with | [_, _, _], _ => rfl
  have F_Disk_carry := fun_mk (st := st_Disk_carry) lk_Disk_carry co_Disk_carry kp_Disk_carry
  have B_Disk_carry := F_Disk_carry.binds (ps := ["self", "item"]) fun _ _ _ _ _ _ us hl => match us, hl with | [_, _], _ => rfl
  have F_Disk_sync := fun_mk (st := st_Disk_sync) lk_Disk_sync co_Disk_sync kp_Disk_sync
  have B_Disk_sync := F_Disk_sync.binds (ps := ["self"]) fun _ _ _ _ _ _ us hl => match us, hl with | [_], _ => rfl
  have F_Disk_read := fun_mk (st := st_Disk_read) lk_Disk_read co_Disk_read kp_Disk_read
  have B_Disk_read := F_Disk_read.binds (ps := ["self", "file"]) fun _ _ _ _ _ _ us hl => match us, hl with | [_, _], _ => rfl
  have F_Disk_waiting := fun_mk (st := st_Disk_waiting) lk_Disk_waiting co_Disk_waiting kp_Disk_waiting
  have B_Disk_waiting := F_Disk_waiting.binds (ps := ["self"]) fun _ _ _ _ _ _ us hl => match us, hl with | [_], _ => rfl
  have F_Disk_again := fun_mk (st := st_Disk_again) lk_Disk_again co_Disk_again kp_Disk_again
  have B_Disk_again := F_Disk_again.binds (ps := ["self", "keep", "power"]) fun _ _ _ _ _ _ us hl => match us, hl with | [_, _, _], _ => rfl
  have F_done_to := fun_mk (st := st_done_to) lk_done_to co_done_to kp_done_to
  have B_done_to := F_done_to.binds (ps := ["files", "item"]) fun _ _ _ _ _ _ us hl => match us, hl with | [_, _], _ => rfl
  have F_items_in := fun_mk (st := st_items_in) lk_items_in co_items_in kp_items_in
  have B_items_in := F_items_in.binds (ps := ["item"]) fun _ _ _ _ _ _ us hl => match us, hl with | [_], _ => rfl
  have F_slot_value := fun_mk (st := st_slot_value) lk_slot_value co_slot_value kp_slot_value
  have B_slot_value := F_slot_value.binds (ps := ["disk", "slot", "most"]) fun _ _ _ _ _ _ us hl => match us, hl with | [_, _, _], _ => rfl
  have F_newest_snap := fun_mk (st := st_newest_snap) lk_newest_snap co_newest_snap kp_newest_snap
  have B_newest_snap := F_newest_snap.binds (ps := ["disk", "most"]) fun _ _ _ _ _ _ us hl => match us, hl with | [_, _], _ => rfl
  have F_recover := fun_mk (st := st_recover) lk_recover co_recover kp_recover
  have B_recover := F_recover.binds (ps := ["disk"]) fun _ _ _ _ _ _ us hl => match us, hl with | [_], _ => rfl
  have F_signs_of := fun_mk (st := st_signs_of) lk_signs_of co_signs_of kp_signs_of
  have B_signs_of := F_signs_of.binds (ps := ["rows"]) fun _ _ _ _ _ _ us hl => match us, hl with | [_], _ => rfl
  have F_Store_init := fun_mk (st := st_Store_init) lk_Store_init co_Store_init kp_Store_init
  have B_Store_init := F_Store_init.binds (ps := ["self", "disk"]) fun _ _ _ _ _ _ us hl => match us, hl with | [_, _], _ => rfl
  have F_Store_append := fun_mk (st := st_Store_append) lk_Store_append co_Store_append kp_Store_append
  have B_Store_append := F_Store_append.binds (ps := ["self", "words"]) fun _ _ _ _ _ _ us hl => match us, hl with | [_, _], _ => rfl
  have F_Store_sync := fun_mk (st := st_Store_sync) lk_Store_sync co_Store_sync kp_Store_sync
  have B_Store_sync := F_Store_sync.binds (ps := ["self"]) fun _ _ _ _ _ _ us hl => match us, hl with | [_], _ => rfl
  have F_Store_rows := fun_mk (st := st_Store_rows) lk_Store_rows co_Store_rows kp_Store_rows
  have B_Store_rows := F_Store_rows.binds (ps := ["self"]) fun _ _ _ _ _ _ us hl => match us, hl with | [_], _ => rfl
  have F_law_log_line := fun_mk (st := st_law_log_line) lk_law_log_line co_law_log_line kp_law_log_line
  have B_law_log_line := F_law_log_line.binds (ps := ["number", "words"]) fun _ _ _ _ _ _ us hl => match us, hl with | [_, _], _ => rfl
  have F_law_log_text := fun_mk (st := st_law_log_text) lk_law_log_text co_law_log_text kp_law_log_text
  have B_law_log_text := F_law_log_text.binds (ps := ["rows"]) fun _ _ _ _ _ _ us hl => match us, hl with | [_], _ => rfl
  have F_law_signs := fun_mk (st := st_law_signs) lk_law_signs co_law_signs kp_law_signs
  have B_law_signs := F_law_signs.binds (ps := []) fun _ _ _ _ _ _ us hl => match us, hl with | [], _ => rfl
  have F_law_words := fun_mk (st := st_law_words) lk_law_words co_law_words kp_law_words
  have B_law_words := F_law_words.binds (ps := ["stock", "most"]) fun _ _ _ _ _ _ us hl => match us, hl with | [_, _], _ => rfl
  have F_law_stock := fun_mk (st := st_law_stock) lk_law_stock co_law_stock kp_law_stock
  have B_law_stock := F_law_stock.binds (ps := ["script", "at"]) fun _ _ _ _ _ _ us hl => match us, hl with | [_, _], _ => rfl
  have F_law_draw := fun_mk (st := st_law_draw) lk_law_draw co_law_draw kp_law_draw
  have B_law_draw := F_law_draw.binds (ps := ["stock", "many"]) fun _ _ _ _ _ _ us hl => match us, hl with | [_, _], _ => rfl
  have F_law_matches := fun_mk (st := st_law_matches) lk_law_matches co_law_matches kp_law_matches
  have B_law_matches := F_law_matches.binds (ps := ["answer", "due"]) fun _ _ _ _ _ _ us hl => match us, hl with | [_, _], _ => rfl
  have F_law_k04_signs := fun_mk (st := st_law_k04_signs) lk_law_k04_signs co_law_k04_signs kp_law_k04_signs
  have B_law_k04_signs := F_law_k04_signs.binds (ps := ["stock", "over"]) fun _ _ _ _ _ _ us hl => match us, hl with | [_, _], _ => rfl
  have F_law_k04_long := fun_mk (st := st_law_k04_long) lk_law_k04_long co_law_k04_long kp_law_k04_long
  have B_law_k04_long := F_law_k04_long.binds (ps := ["many"]) fun _ _ _ _ _ _ us hl => match us, hl with | [_], _ => rfl
  have F_law := fun_mk (st := st_law) lk_law co_law kp_law
  have B_law := F_law.binds (ps := ["script"]) fun _ _ _ _ _ _ us hl => match us, hl with | [_], _ => rfl
  have T : Txt K w mg { a_Disk := a_Disk, a_Store := a_Store, a_LIMITS := a_LIMITS, a_SLOTS := a_SLOTS, a_TOLD := a_TOLD, a_TooMany := a_TooMany, a_WinsError := a_WinsError } := {
    b_ValueError := PySem.W.mg_none_of X G b_ValueError
    b_abs := PySem.W.mg_none_of X G b_abs
    b_all := PySem.W.mg_none_of X G b_all
    b_any := PySem.W.mg_none_of X G b_any
    b_bool := PySem.W.mg_none_of X G b_bool
    b_enumerate := PySem.W.mg_none_of X G b_enumerate
    b_int := PySem.W.mg_none_of X G b_int
    b_isinstance := PySem.W.mg_none_of X G b_isinstance
    b_len := PySem.W.mg_none_of X G b_len
    b_list := PySem.W.mg_none_of X G b_list
    b_max := PySem.W.mg_none_of X G b_max
    b_min := PySem.W.mg_none_of X G b_min
    b_ord := PySem.W.mg_none_of X G b_ord
    b_range := PySem.W.mg_none_of X G b_range
    b_str := PySem.W.mg_none_of X G b_str
    b_sum := PySem.W.mg_none_of X G b_sum
    b_tuple := PySem.W.mg_none_of X G b_tuple
    c_DIGITS := ⟨_, PySem.W.mg_of X G c_DIGITS⟩
    c_GREATEST := ⟨_, PySem.W.mg_of X G c_GREATEST⟩
    c_LEAST := ⟨_, PySem.W.mg_of X G c_LEAST⟩
    c_LIMITS := PySem.W.mg_of X G c_LIMITS
    k_LIMITS_lines := ⟨_, _, _, l_LIMITS, kl_LIMITS, v_LIMITS_lines, ⟨_, rfl⟩⟩
    k_LIMITS_words := ⟨_, _, _, l_LIMITS, kl_LIMITS, v_LIMITS_words, ⟨_, rfl⟩⟩
    k_LIMITS_number := ⟨_, _, _, l_LIMITS, kl_LIMITS, v_LIMITS_number, ⟨_, rfl⟩⟩
    k_LIMITS_depth := ⟨_, _, _, l_LIMITS, kl_LIMITS, v_LIMITS_depth, ⟨_, rfl⟩⟩
    k_LIMITS_blocks := ⟨_, _, _, l_LIMITS, kl_LIMITS, v_LIMITS_blocks, ⟨_, rfl⟩⟩
    k_LIMITS_lanes := ⟨_, _, _, l_LIMITS, kl_LIMITS, v_LIMITS_lanes, ⟨_, rfl⟩⟩
    k_LIMITS_rungs := ⟨_, _, _, l_LIMITS, kl_LIMITS, v_LIMITS_rungs, ⟨_, rfl⟩⟩
    k_LIMITS_ways := ⟨_, _, _, l_LIMITS, kl_LIMITS, v_LIMITS_ways, ⟨_, rfl⟩⟩
    k_LIMITS_promises := ⟨_, _, _, l_LIMITS, kl_LIMITS, v_LIMITS_promises, ⟨_, rfl⟩⟩
    k_LIMITS_variables := ⟨_, _, _, l_LIMITS, kl_LIMITS, v_LIMITS_variables, ⟨_, rfl⟩⟩
    k_LIMITS_states := ⟨_, _, _, l_LIMITS, kl_LIMITS, v_LIMITS_states, ⟨_, rfl⟩⟩
    k_LIMITS_rows := ⟨_, _, _, l_LIMITS, kl_LIMITS, v_LIMITS_rows, ⟨_, rfl⟩⟩
    k_LIMITS_events := ⟨_, _, _, l_LIMITS, kl_LIMITS, v_LIMITS_events, ⟨_, rfl⟩⟩
    k_LIMITS_meetings := ⟨_, _, _, l_LIMITS, kl_LIMITS, v_LIMITS_meetings, ⟨_, rfl⟩⟩
    k_LIMITS_housemeetings := ⟨_, _, _, l_LIMITS, kl_LIMITS, v_LIMITS_housemeetings, ⟨_, rfl⟩⟩
    k_LIMITS_rounds := ⟨_, _, _, l_LIMITS, kl_LIMITS, v_LIMITS_rounds, ⟨_, rfl⟩⟩
    k_LIMITS_late := ⟨_, _, _, l_LIMITS, kl_LIMITS, v_LIMITS_late, ⟨_, rfl⟩⟩
    k_LIMITS_plan := ⟨_, _, _, l_LIMITS, kl_LIMITS, v_LIMITS_plan, ⟨_, rfl⟩⟩
    k_LIMITS_nodes := ⟨_, _, _, l_LIMITS, kl_LIMITS, v_LIMITS_nodes, ⟨_, rfl⟩⟩
    k_LIMITS_players := ⟨_, _, _, l_LIMITS, kl_LIMITS, v_LIMITS_players, ⟨_, rfl⟩⟩
    k_LIMITS_log := ⟨_, _, _, l_LIMITS, kl_LIMITS, v_LIMITS_log, ⟨_, rfl⟩⟩
    k_LIMITS_signs := ⟨_, _, _, l_LIMITS, kl_LIMITS, v_LIMITS_signs, ⟨_, rfl⟩⟩
    c_LOG := ⟨_, PySem.W.mg_of X G c_LOG⟩
    c_PRIME := ⟨_, PySem.W.mg_of X G c_PRIME⟩
    c_SLOTS := PySem.W.mg_of X G c_SLOTS
    t_SLOTS := fun H => .inr ⟨_, _, _, l_SLOTS, rfl, rfl, by rw [sizeLine_eq]; exact (by decide : (2 : Nat) ≤ 16777216), .cons ⟨_, rfl⟩ (.cons ⟨_, rfl⟩ (.nil))⟩
    c_TOLD := PySem.W.mg_of X G c_TOLD
    k_TOLD_blocks := ⟨_, _, _, l_TOLD, kl_TOLD, v_TOLD_blocks, ⟨_, rfl⟩⟩
    k_TOLD_states := ⟨_, _, _, l_TOLD, kl_TOLD, v_TOLD_states, ⟨_, rfl⟩⟩
    k_TOLD_housemeetings := ⟨_, _, _, l_TOLD, kl_TOLD, v_TOLD_housemeetings, ⟨_, rfl⟩⟩
    m_TOLD_log := ⟨_, _, l_TOLD, kl_TOLD, sm_TOLD, mi_TOLD_log⟩
    m_TOLD_signs := ⟨_, _, l_TOLD, kl_TOLD, sm_TOLD, mi_TOLD_signs⟩
    l_Disk := ⟨pg_Disk, hd_Disk, po_Disk, sa_Disk⟩
    n_Disk_power_now := n_Disk_power_now
    n_Disk_files_now := n_Disk_files_now
    n_Disk_files_kept := n_Disk_files_kept
    n_Disk_waiting_list := n_Disk_waiting_list
    l_Store := ⟨pg_Store, hd_Store, po_Store, sa_Store⟩
    n_Store_disk_kept := n_Store_disk_kept
    n_Store_rows_list := n_Store_rows_list
    o_TooMany := ⟨⟨_, _, _, _, _, _, _, _, _, _, _, _, _, _, _, xl_TooMany, rv_TooMany⟩, sa_TooMany, ec_TooMany, ty_TooMany, kc_TooMany⟩
    x_TooMany := ⟨ga_TooMany, gg_TooMany, ec_TooMany, hd_TooMany⟩
    g_TooMany := PySem.W.mg_of X G g_TooMany
    m_TooMany := exm_own ec_TooMany ic_TooMany ty_TooMany ss_TooMany
    n_TooMany_what := n_TooMany_what
    g_WinsError := PySem.W.mg_of X G g_WinsError
    wg_WinsError := wg_WinsError
    wr_WinsError := wr_WinsError
    wv_WinsError := wv_WinsError
    f_TooMany_init := ⟨_, _, F_TooMany_init, at_TooMany_init, tf_TooMany_init, B_TooMany_init⟩
    f_bound := ⟨_, _, F_bound, PySem.W.mg_of X G at_bound, B_bound⟩
    f_is_number := ⟨_, _, F_is_number, PySem.W.mg_of X G at_is_number, B_is_number⟩
    f_too_great := ⟨_, _, F_too_great, PySem.W.mg_of X G at_too_great, B_too_great⟩
    f_number_of := ⟨_, _, F_number_of, PySem.W.mg_of X G at_number_of, B_number_of⟩
    f_log_line := ⟨_, _, F_log_line, PySem.W.mg_of X G at_log_line, B_log_line⟩
    f_right_words := ⟨_, _, F_right_words, PySem.W.mg_of X G at_right_words, B_right_words⟩
    f_line_words := ⟨_, _, F_line_words, PySem.W.mg_of X G at_line_words, B_line_words⟩
    f_numbered_words := ⟨_, _, F_numbered_words, PySem.W.mg_of X G at_numbered_words, B_numbered_words⟩
    f_Disk_init := ⟨_, _, F_Disk_init, ⟨mk_Disk, at_Disk_init, fn_Disk_init, kc_Disk⟩, PySem.W.mg_of X G g_Disk, B_Disk_init⟩
    f_Disk_spend := ⟨_, _, F_Disk_spend, ⟨at_Disk_spend, fn_Disk_spend, kp_Disk_spend⟩, B_Disk_spend⟩
    f_Disk_write := ⟨_, _, F_Disk_write, ⟨at_Disk_write, fn_Disk_write, kp_Disk_write⟩, B_Disk_write⟩
    f_Disk_trim := ⟨_, _, F_Disk_trim, ⟨at_Disk_trim, fn_Disk_trim, kp_Disk_trim⟩, B_Disk_trim⟩
    f_Disk_carry := ⟨_, _, F_Disk_carry, ⟨at_Disk_carry, fn_Disk_carry, kp_Disk_carry⟩, B_Disk_carry⟩
    f_Disk_sync := ⟨_, _, F_Disk_sync, ⟨at_Disk_sync, fn_Disk_sync, kp_Disk_sync⟩, B_Disk_sync⟩
    f_Disk_read := ⟨_, _, F_Disk_read, ⟨at_Disk_read, fn_Disk_read, kp_Disk_read⟩, B_Disk_read⟩
    f_Disk_waiting := ⟨_, _, F_Disk_waiting, ⟨at_Disk_waiting, fn_Disk_waiting, kp_Disk_waiting⟩, B_Disk_waiting⟩
    f_Disk_again := ⟨_, _, F_Disk_again, ⟨at_Disk_again, fn_Disk_again, kp_Disk_again⟩, B_Disk_again⟩
    f_done_to := ⟨_, _, F_done_to, PySem.W.mg_of X G at_done_to, B_done_to⟩
    f_items_in := ⟨_, _, F_items_in, PySem.W.mg_of X G at_items_in, B_items_in⟩
    f_slot_value := ⟨_, _, F_slot_value, PySem.W.mg_of X G at_slot_value, B_slot_value⟩
    f_newest_snap := ⟨_, _, F_newest_snap, PySem.W.mg_of X G at_newest_snap, B_newest_snap⟩
    f_recover := ⟨_, _, F_recover, PySem.W.mg_of X G at_recover, B_recover⟩
    f_signs_of := ⟨_, _, F_signs_of, PySem.W.mg_of X G at_signs_of, B_signs_of⟩
    f_Store_init := ⟨_, _, F_Store_init, ⟨mk_Store, at_Store_init, fn_Store_init, kc_Store⟩, PySem.W.mg_of X G g_Store, B_Store_init⟩
    f_Store_append := ⟨_, _, F_Store_append, ⟨at_Store_append, fn_Store_append, kp_Store_append⟩, B_Store_append⟩
    f_Store_sync := ⟨_, _, F_Store_sync, ⟨at_Store_sync, fn_Store_sync, kp_Store_sync⟩, B_Store_sync⟩
    f_Store_rows := ⟨_, _, F_Store_rows, ⟨at_Store_rows, fn_Store_rows, kp_Store_rows⟩, B_Store_rows⟩
    f_law_log_line := ⟨_, _, F_law_log_line, PySem.W.mg_of X G at_law_log_line, B_law_log_line⟩
    f_law_log_text := ⟨_, _, F_law_log_text, PySem.W.mg_of X G at_law_log_text, B_law_log_text⟩
    f_law_signs := ⟨_, _, F_law_signs, PySem.W.mg_of X G at_law_signs, B_law_signs⟩
    f_law_words := ⟨_, _, F_law_words, PySem.W.mg_of X G at_law_words, B_law_words⟩
    f_law_stock := ⟨_, _, F_law_stock, PySem.W.mg_of X G at_law_stock, B_law_stock⟩
    f_law_draw := ⟨_, _, F_law_draw, PySem.W.mg_of X G at_law_draw, B_law_draw⟩
    f_law_matches := ⟨_, _, F_law_matches, PySem.W.mg_of X G at_law_matches, B_law_matches⟩
    f_law_k04_signs := ⟨_, _, F_law_k04_signs, PySem.W.mg_of X G at_law_k04_signs, B_law_k04_signs⟩
    f_law_k04_long := ⟨_, _, F_law_k04_long, PySem.W.mg_of X G at_law_k04_long, B_law_k04_long⟩
    f_law := ⟨_, _, F_law, PySem.W.mg_of X G at_law, B_law⟩
  }
  exact ⟨PySem.W.fnOf "law" "law" (defArgs st_law) (defBody st_law) (defScope st_law) .none kV_law dc_law pm_law an_law cd_law ct_law, fun s v => .of_eq rfl, fun base _ _ => ok_law T F_law⟩
theorem walk {l : PySem.W.OpenLaw} {q : Program} {loose : List Str} {XP : (Str → Option Value) → Heap → Prop} {YP : World → Heap → Prop} {d : DefRec} {K : Params → PySem.W.Frag} (hn : l.most = some 63) (hdf : d.params.defaults = [])
    (hY : ∀ (w : World) (h : Heap), YP w h → (K w.params).In h)
    (F : ∀ (w : World) (mg : Str → Option Value) (fa : Addr) (h : Heap), (K w.params).In h → h.Ns mainGlobals mg → mg d.name = some (.ref fa) →
      ∃ fd : FuncData, (∀ (s : Shared) (u : Value), BindsTo s fd ⟨[u], []⟩ [("script", u)]) ∧ ∀ base : Heap, (K w.params).In base → base.Ns mainGlobals mg → FnOk l.prog w (K w.params) mg base CX0 13 fa fd ["script"] (sp_law (K w.params))) :
    PySem.W.WalkO q loose XP YP l.row.toRowW d [] (fun f vs => PySem.call f vs) :=
  L2.walk_of (n := 63) (k := 13) (x := "script") (CX := fun _ => CX0) (sp := fun w => sp_law (K w.params)) hn (by decide) hdf ⟨rfl, by decide, by decide⟩ hY F (fun _ _ a ns hl _ hS => ⟨a, ns, rfl, hS, hl, fun _ => rfl⟩) fun _ _ _ _ _ z => z
end L04
open PySem PySem.W PyProof.Rows in
set_option maxRecDepth 100000 in
set_option maxHeartbeats 0 in
theorem PySem.Challenge.cw_whoeverwins_k04_lines_and_their_checks_holds : PySem.Challenge.rw_whoeverwins_k04_lines_and_their_checks.Holds := by
  w_on; o_law; k_head; (case hw => w_witness2)
  k_fill
  refine L04.walk (l := PySem.Challenge.rw_whoeverwins_k04_lines_and_their_checks) rfl rfl (fun w h Y => PySem.W.kIn_of Y) ?F
  case F =>
    intro w mg fa h KX G hmg
    refine' L04.all_mk KX G hmg ?g_Disk ?pg_Disk ?hd_Disk ?po_Disk ?sa_Disk ?mk_Disk ?kc_Disk ?g_Store ?pg_Store ?hd_Store ?po_Store ?sa_Store ?mk_Store ?kc_Store ?b_ValueError ?b_abs ?b_all ?b_any ?b_bool ?b_enumerate ?b_int ?b_isinstance ?b_len ?b_list ?b_max ?b_min ?b_ord ?b_range ?b_str ?b_sum ?b_tuple ?c_DIGITS ?c_GREATEST ?c_LEAST ?c_LIMITS ?l_LIMITS ?kl_LIMITS ?v_LIMITS_lines ?v_LIMITS_words ?v_LIMITS_number ?v_LIMITS_depth ?v_LIMITS_blocks ?v_LIMITS_lanes ?v_LIMITS_rungs ?v_LIMITS_ways ?v_LIMITS_promises ?v_LIMITS_variables ?v_LIMITS_states ?v_LIMITS_rows ?v_LIMITS_events ?v_LIMITS_meetings ?v_LIMITS_housemeetings ?v_LIMITS_rounds ?v_LIMITS_late ?v_LIMITS_plan ?v_LIMITS_nodes ?v_LIMITS_players ?v_LIMITS_log ?v_LIMITS_signs ?c_LOG ?c_PRIME ?c_SLOTS ?l_SLOTS ?c_TOLD ?l_TOLD ?kl_TOLD ?v_TOLD_blocks ?v_TOLD_states ?v_TOLD_housemeetings ?sm_TOLD ?mi_TOLD_log ?mi_TOLD_signs ?n_Disk_power_now ?n_Disk_files_now ?n_Disk_files_kept ?n_Disk_waiting_list ?n_Store_disk_kept ?n_Store_rows_list ?g_TooMany ?xl_TooMany ?rv_TooMany ?sa_TooMany ?ec_TooMany ?ty_TooMany ?kc_TooMany ?ga_TooMany ?gg_TooMany ?hd_TooMany ?ic_TooMany ?ss_TooMany ?n_TooMany_what ?g_WinsError ?wg_WinsError ?wr_WinsError ?wv_WinsError ?at_TooMany_init ?tf_TooMany_init ?lk_TooMany_init ?co_TooMany_init ?kp_TooMany_init ?at_bound ?lk_bound ?co_bound ?kp_bound ?at_is_number ?lk_is_number ?co_is_number ?kp_is_number ?at_too_great ?lk_too_great ?co_too_great ?kp_too_great ?at_number_of ?lk_number_of ?co_number_of ?kp_number_of ?at_log_line ?lk_log_line ?co_log_line ?kp_log_line ?at_right_words ?lk_right_words ?co_right_words ?kp_right_words ?at_line_words ?lk_line_words ?co_line_words ?kp_line_words ?at_numbered_words ?lk_numbered_words ?co_numbered_words ?kp_numbered_words ?at_Disk_init ?fn_Disk_init ?lk_Disk_init ?co_Disk_init ?kp_Disk_init ?at_Disk_spend ?fn_Disk_spend ?lk_Disk_spend ?co_Disk_spend ?kp_Disk_spend ?at_Disk_write ?fn_Disk_write ?lk_Disk_write ?co_Disk_write ?kp_Disk_write ?at_Disk_trim ?fn_Disk_trim ?lk_Disk_trim ?co_Disk_trim ?kp_Disk_trim ?at_Disk_carry ?fn_Disk_carry ?lk_Disk_carry ?co_Disk_carry ?kp_Disk_carry ?at_Disk_sync ?fn_Disk_sync ?lk_Disk_sync ?co_Disk_sync ?kp_Disk_sync ?at_Disk_read ?fn_Disk_read ?lk_Disk_read ?co_Disk_read ?kp_Disk_read ?at_Disk_waiting ?fn_Disk_waiting ?lk_Disk_waiting ?co_Disk_waiting ?kp_Disk_waiting ?at_Disk_again ?fn_Disk_again ?lk_Disk_again ?co_Disk_again ?kp_Disk_again ?at_done_to ?lk_done_to ?co_done_to ?kp_done_to ?at_items_in ?lk_items_in ?co_items_in ?kp_items_in ?at_slot_value ?lk_slot_value ?co_slot_value ?kp_slot_value ?at_newest_snap ?lk_newest_snap ?co_newest_snap ?kp_newest_snap ?at_recover ?lk_recover ?co_recover ?kp_recover ?at_signs_of ?lk_signs_of ?co_signs_of ?kp_signs_of ?at_Store_init ?fn_Store_init ?lk_Store_init ?co_Store_init ?kp_Store_init ?at_Store_append ?fn_Store_append ?lk_Store_append ?co_Store_append ?kp_Store_append ?at_Store_sync ?fn_Store_sync ?lk_Store_sync ?co_Store_sync ?kp_Store_sync ?at_Store_rows ?fn_Store_rows ?lk_Store_rows ?co_Store_rows ?kp_Store_rows ?at_law_log_line ?lk_law_log_line ?co_law_log_line ?kp_law_log_line ?at_law_log_text ?lk_law_log_text ?co_law_log_text ?kp_law_log_text ?at_law_signs ?lk_law_signs ?co_law_signs ?kp_law_signs ?at_law_words ?lk_law_words ?co_law_words ?kp_law_words ?at_law_stock ?lk_law_stock ?co_law_stock ?kp_law_stock ?at_law_draw ?lk_law_draw ?co_law_draw ?kp_law_draw ?at_law_matches ?lk_law_matches ?co_law_matches ?kp_law_matches ?at_law_k04_signs ?lk_law_k04_signs ?co_law_k04_signs ?kp_law_k04_signs ?at_law_k04_long ?lk_law_k04_long ?co_law_k04_long ?kp_law_k04_long ?at_law ?lk_law ?co_law ?kp_law
    (case g_Disk => k_is)
    (case pg_Disk => k_is)
    (case hd_Disk => k_is)
    (case po_Disk => k_is)
    (case sa_Disk => k_is)
    (case mk_Disk => k_is)
    (case kc_Disk => k_is)
    (case g_Store => k_is)
    (case pg_Store => k_is)
    (case hd_Store => k_is)
    (case po_Store => k_is)
    (case sa_Store => k_is)
    (case mk_Store => k_is)
    (case kc_Store => k_is)
    (case b_ValueError => k_is)
    (case b_abs => k_is)
    (case b_all => k_is)
    (case b_any => k_is)
    (case b_bool => k_is)
    (case b_enumerate => k_is)
    (case b_int => k_is)
    (case b_isinstance => k_is)
    (case b_len => k_is)
    (case b_list => k_is)
    (case b_max => k_is)
    (case b_min => k_is)
    (case b_ord => k_is)
    (case b_range => k_is)
    (case b_str => k_is)
    (case b_sum => k_is)
    (case b_tuple => k_is)
    (case c_DIGITS => k_is)
    (case c_GREATEST => k_is)
    (case c_LEAST => k_is)
    (case c_LIMITS => k_is)
    (case l_LIMITS => k_is)
    (case kl_LIMITS => exact ⟨⟨_, _, rfl, rfl⟩, ⟨⟨_, _, rfl, rfl⟩, ⟨⟨_, _, rfl, rfl⟩, ⟨⟨_, _, rfl, rfl⟩, ⟨⟨_, _, rfl, rfl⟩, ⟨⟨_, _, rfl, rfl⟩, ⟨⟨_, _, rfl, rfl⟩, ⟨⟨_, _, rfl, rfl⟩, ⟨⟨_, _, rfl, rfl⟩, ⟨⟨_, _, rfl, rfl⟩, ⟨⟨_, _, rfl, rfl⟩, ⟨⟨_, _, rfl, rfl⟩, ⟨⟨_, _, rfl, rfl⟩, ⟨⟨_, _, rfl, rfl⟩, ⟨⟨_, _, rfl, rfl⟩, ⟨⟨_, _, rfl, rfl⟩, ⟨⟨_, _, rfl, rfl⟩, ⟨⟨_, _, rfl, rfl⟩, ⟨⟨_, _, rfl, rfl⟩, ⟨⟨_, _, rfl, rfl⟩, ⟨⟨_, _, rfl, rfl⟩, ⟨⟨_, _, rfl, rfl⟩, trivial⟩⟩⟩⟩⟩⟩⟩⟩⟩⟩⟩⟩⟩⟩⟩⟩⟩⟩⟩⟩⟩⟩)
    (case v_LIMITS_lines => k_is)
    (case v_LIMITS_words => k_is)
    (case v_LIMITS_number => k_is)
    (case v_LIMITS_depth => k_is)
    (case v_LIMITS_blocks => k_is)
    (case v_LIMITS_lanes => k_is)
    (case v_LIMITS_rungs => k_is)
    (case v_LIMITS_ways => k_is)
    (case v_LIMITS_promises => k_is)
    (case v_LIMITS_variables => k_is)
    (case v_LIMITS_states => k_is)
    (case v_LIMITS_rows => k_is)
    (case v_LIMITS_events => k_is)
    (case v_LIMITS_meetings => k_is)
    (case v_LIMITS_housemeetings => k_is)
    (case v_LIMITS_rounds => k_is)
    (case v_LIMITS_late => k_is)
    (case v_LIMITS_plan => k_is)
    (case v_LIMITS_nodes => k_is)
    (case v_LIMITS_players => k_is)
    (case v_LIMITS_log => k_is)
    (case v_LIMITS_signs => k_is)
    (case c_LOG => k_is)
    (case c_PRIME => k_is)
    (case c_SLOTS => k_is)
    (case l_SLOTS => k_is)
    (case c_TOLD => k_is)
    (case l_TOLD => k_is)
    (case kl_TOLD => exact ⟨⟨_, _, rfl, rfl⟩, ⟨⟨_, _, rfl, rfl⟩, ⟨⟨_, _, rfl, rfl⟩, trivial⟩⟩⟩)
    (case v_TOLD_blocks => k_is)
    (case v_TOLD_states => k_is)
    (case v_TOLD_housemeetings => k_is)
    (case sm_TOLD => first | rfl | decide +kernel | k_is)
    (case mi_TOLD_log => k_is)
    (case mi_TOLD_signs => k_is)
    (case n_Disk_power_now => k_is)
    (case n_Disk_files_now => k_is)
    (case n_Disk_files_kept => k_is)
    (case n_Disk_waiting_list => k_is)
    (case n_Store_disk_kept => k_is)
    (case n_Store_rows_list => k_is)
    (case g_TooMany => k_is)
    (case xl_TooMany => k_is)
    (case rv_TooMany => first | rfl | decide +kernel | k_is)
    (case sa_TooMany => k_is)
    (case ec_TooMany => k_is)
    (case ty_TooMany => k_is)
    (case kc_TooMany => k_is)
    (case ga_TooMany => k_is)
    (case gg_TooMany => k_is)
    (case hd_TooMany => k_is)
    (case ic_TooMany => k_is)
    (case ss_TooMany => first | rfl | k_is)
    (case n_TooMany_what => k_is)
    (case g_WinsError => k_is)
    (case wg_WinsError => k_is)
    (case wr_WinsError => k_is)
    (case wv_WinsError => k_is)
    (case at_TooMany_init => k_is)
    (case tf_TooMany_init => k_is)
    (case lk_TooMany_init => k_is)
    (case co_TooMany_init => k_is)
    (case kp_TooMany_init => k_is)
    (case at_bound => k_is)
    (case lk_bound => k_is)
    (case co_bound => k_is)
    (case kp_bound => k_is)
    (case at_is_number => k_is)
    (case lk_is_number => k_is)
    (case co_is_number => k_is)
    (case kp_is_number => k_is)
    (case at_too_great => k_is)
    (case lk_too_great => k_is)
    (case co_too_great => k_is)
    (case kp_too_great => k_is)
    (case at_number_of => k_is)
    (case lk_number_of => k_is)
    (case co_number_of => k_is)
    (case kp_number_of => k_is)
    (case at_log_line => k_is)
    (case lk_log_line => k_is)
    (case co_log_line => k_is)
    (case kp_log_line => k_is)
    (case at_right_words => k_is)
    (case lk_right_words => k_is)
    (case co_right_words => k_is)
    (case kp_right_words => k_is)
    (case at_line_words => k_is)
    (case lk_line_words => k_is)
    (case co_line_words => k_is)
    (case kp_line_words => k_is)
    (case at_numbered_words => k_is)
    (case lk_numbered_words => k_is)
    (case co_numbered_words => k_is)
    (case kp_numbered_words => k_is)
    (case at_Disk_init => k_is)
    (case fn_Disk_init => k_is)
    (case lk_Disk_init => k_is)
    (case co_Disk_init => k_is)
    (case kp_Disk_init => k_is)
    (case at_Disk_spend => k_is)
    (case fn_Disk_spend => k_is)
    (case lk_Disk_spend => k_is)
    (case co_Disk_spend => k_is)
    (case kp_Disk_spend => k_is)
    (case at_Disk_write => k_is)
    (case fn_Disk_write => k_is)
    (case lk_Disk_write => k_is)
    (case co_Disk_write => k_is)
    (case kp_Disk_write => k_is)
    (case at_Disk_trim => k_is)
    (case fn_Disk_trim => k_is)
    (case lk_Disk_trim => k_is)
    (case co_Disk_trim => k_is)
    (case kp_Disk_trim => k_is)
    (case at_Disk_carry => k_is)
    (case fn_Disk_carry => k_is)
    (case lk_Disk_carry => k_is)
    (case co_Disk_carry => k_is)
    (case kp_Disk_carry => k_is)
    (case at_Disk_sync => k_is)
    (case fn_Disk_sync => k_is)
    (case lk_Disk_sync => k_is)
    (case co_Disk_sync => k_is)
    (case kp_Disk_sync => k_is)
    (case at_Disk_read => k_is)
    (case fn_Disk_read => k_is)
    (case lk_Disk_read => k_is)
    (case co_Disk_read => k_is)
    (case kp_Disk_read => k_is)
    (case at_Disk_waiting => k_is)
    (case fn_Disk_waiting => k_is)
    (case lk_Disk_waiting => k_is)
    (case co_Disk_waiting => k_is)
    (case kp_Disk_waiting => k_is)
    (case at_Disk_again => k_is)
    (case fn_Disk_again => k_is)
    (case lk_Disk_again => k_is)
    (case co_Disk_again => k_is)
    (case kp_Disk_again => k_is)
    (case at_done_to => k_is)
    (case lk_done_to => k_is)
    (case co_done_to => k_is)
    (case kp_done_to => k_is)
    (case at_items_in => k_is)
    (case lk_items_in => k_is)
    (case co_items_in => k_is)
    (case kp_items_in => k_is)
    (case at_slot_value => k_is)
    (case lk_slot_value => k_is)
    (case co_slot_value => k_is)
    (case kp_slot_value => k_is)
    (case at_newest_snap => k_is)
    (case lk_newest_snap => k_is)
    (case co_newest_snap => k_is)
    (case kp_newest_snap => k_is)
    (case at_recover => k_is)
    (case lk_recover => k_is)
    (case co_recover => k_is)
    (case kp_recover => k_is)
    (case at_signs_of => k_is)
    (case lk_signs_of => k_is)
    (case co_signs_of => k_is)
    (case kp_signs_of => k_is)
    (case at_Store_init => k_is)
    (case fn_Store_init => k_is)
    (case lk_Store_init => k_is)
    (case co_Store_init => k_is)
    (case kp_Store_init => k_is)
    (case at_Store_append => k_is)
    (case fn_Store_append => k_is)
    (case lk_Store_append => k_is)
    (case co_Store_append => k_is)
    (case kp_Store_append => k_is)
    (case at_Store_sync => k_is)
    (case fn_Store_sync => k_is)
    (case lk_Store_sync => k_is)
    (case co_Store_sync => k_is)
    (case kp_Store_sync => k_is)
    (case at_Store_rows => k_is)
    (case fn_Store_rows => k_is)
    (case lk_Store_rows => k_is)
    (case co_Store_rows => k_is)
    (case kp_Store_rows => k_is)
    (case at_law_log_line => k_is)
    (case lk_law_log_line => k_is)
    (case co_law_log_line => k_is)
    (case kp_law_log_line => k_is)
    (case at_law_log_text => k_is)
    (case lk_law_log_text => k_is)
    (case co_law_log_text => k_is)
    (case kp_law_log_text => k_is)
    (case at_law_signs => k_is)
    (case lk_law_signs => k_is)
    (case co_law_signs => k_is)
    (case kp_law_signs => k_is)
    (case at_law_words => k_is)
    (case lk_law_words => k_is)
    (case co_law_words => k_is)
    (case kp_law_words => k_is)
    (case at_law_stock => k_is)
    (case lk_law_stock => k_is)
    (case co_law_stock => k_is)
    (case kp_law_stock => k_is)
    (case at_law_draw => k_is)
    (case lk_law_draw => k_is)
    (case co_law_draw => k_is)
    (case kp_law_draw => k_is)
    (case at_law_matches => k_is)
    (case lk_law_matches => k_is)
    (case co_law_matches => k_is)
    (case kp_law_matches => k_is)
    (case at_law_k04_signs => k_is)
    (case lk_law_k04_signs => k_is)
    (case co_law_k04_signs => k_is)
    (case kp_law_k04_signs => k_is)
    (case at_law_k04_long => k_is)
    (case lk_law_k04_long => k_is)
    (case co_law_k04_long => k_is)
    (case kp_law_k04_long => k_is)
    (case at_law => k_is)
    (case lk_law => k_is)
    (case co_law => k_is)
    (case kp_law => k_is)
#print axioms PySem.Challenge.cw_whoeverwins_k04_lines_and_their_checks_holds

